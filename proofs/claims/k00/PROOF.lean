import PyProof.Rows.All
import Wide.All
import OpenK.AllK
import Wide.FinOn
import HandS.ForMost
import HandS.IsInst
import HandS.TupAny
import HandS.Conv
import HandS.Style
import HandS.Flow
import HandS.More
import HandS.Zip
import HandS.TupLen
import HandS.TupSets
import HandS.SortRule
import KE.SortCalls
import KE.KDictSum
import HandS.Defaults
import KE.KDictKeyed
import KE.SortData
import KE.DataCmp
import KE.DataEq
import KE.DataAny
import KE.DataMinMax
import KE.DataIsa
import HandS.HeadHook4
import HandS.Head2
import HandS.HeadEnd
import PySem.Challenge.RW_drawnalike_k00_is_tie
set_option Elab.async false
set_option linter.all false
set_option maxRecDepth 100000
set_option maxHeartbeats 4000000

namespace DL
open PySem PySem.Spec PyProof.Rows L2

abbrev D := PyData
/-- what a name may hold: a datum, or the changing object number n -/
inductive SV where
  | dat (d : D)
  | ptr (n : Nat)
abbrev Ga := List (Option SV)
abbrev Sto := List D

/-- F: the changing objects of those who call (not to be touched, not to be met in data) -/
structure Ct where
  P : Program
  w : World
  K : PySem.W.Frag
  F : List Addr
abbrev ctx (X : Cx) : Ct := ⟨X.prog, X.w, X.K, []⟩
abbrev Ct.at (c : Ct) (F : List Addr) : Ct := ⟨c.P, c.w, c.K, F⟩
abbrev Nin (c : Ct) (ι : List Addr) (a : Addr) : Prop := a ∉ c.F ∧ a ∉ ι

def wrT (K : PySem.W.Frag) (a : Addr) (xs : List V) : Prop :=
  ∃ (o : Obj) (its : Array Value) (n : Nat), K.lookup a = some o ∧ o.cls = .type "tuple" ∧ o.data = .seq its n ∧ its.size ≤ sizeLine ∧ Vals xs its.toList

/-- a dict whose keys are tuples, by its entries: key, the key's address, value -/
def DN (c : Ct) (a : Addr) (xs : List (NestedKey × Addr × Value)) (h : Heap) : Prop :=
  (a == sysModules) = false ∧ xs.length ≤ sizeLine ∧ ∃ o es ep, h.get? a = some o ∧ o.ExactDict ∧ o.data = .dict es ep ∧ es.toList = xs.map (entryOfKey (nestedKind c.P c.w)) ∧ (xs.map (·.1)).Nodup

mutual
def nk : D → NestedKey
  | .none => .none
  | .bool b => .num (if b then 1 else 0)
  | .int i => .num i
  | .str x => .text x
  | .tuple ds => .tup (nks ds)
  | .list _ => .none
  | .dict _ => .none
def nks : List D → List NestedKey
  | [] => []
  | d :: ds => nk d :: nks ds
end
def keyD : Key → D
  | .inl i => .int i
  | .inr x => .str x
mutual
/-- a key of a dict: ints, texts, bools, None, tuples of such -/
def isKey : D → Bool
  | .none => true
  | .bool _ => false
  | .int _ => true
  | .str _ => true
  | .tuple ds => isKeys ds
  | .list _ => false
  | .dict _ => false
def isKeys : List D → Bool
  | [] => true
  | d :: ds => isKey d && isKeys ds
end

/-- a key that is a tuple -/
def keyOk (d : D) : Bool := match d with
  | .tuple ds => isKeys ds && decide ((NestedKey.tup (nks ds)).depth ≤ 8)
  | _ => false
mutual
/-- the value v is the datum d; the lists in it are none of those that may change (ι) -/
inductive IsD (c : Ct) (ι : List Addr) (H : Hp) : V → D → Prop
  | non : IsD c ι H .non .none
  | bl (b : Bool) : IsD c ι H (.bl b) (.bool b)
  | int (i : Int) : IsD c ι H (.int i) (.int i)
  | str (x : Str) : IsD c ι H (.str x) (.str x)
  | lst {a : Addr} {xs : List V} {ds : List D} (h : H a = some (.lst xs)) (ha : Nin c ι a) (t : IsDs c ι H xs ds) : IsD c ι H (.ref a) (.list ds)
  | tup {a : Addr} {xs : List V} {ds : List D} (h : (H a = some (.tup xs) ∧ Nin c ι a) ∨ wrT c.K a xs) (t : IsDs c ι H xs ds) : IsD c ι H (.ref a) (.tuple ds)
  | dK {a : Addr} {xs : List (Key × V)} {kvs : List (D × D)} (h : H a = some (.dK xs)) (ha : Nin c ι a) (t : IsKs c ι H xs kvs) : IsD c ι H (.ref a) (.dict kvs)
  | dN {a : Addr} {xs : List (NestedKey × Addr × Value)} {kvs : List (D × D)} (h : H a = some (.ext (DN c a xs))) (ha : Nin c ι a) (t : IsNs c ι H xs kvs) : IsD c ι H (.ref a) (.dict ((.none, .none) :: kvs))
inductive IsDs (c : Ct) (ι : List Addr) (H : Hp) : List V → List D → Prop
  | nil : IsDs c ι H [] []
  | cons {v : V} {vs : List V} {d : D} {ds : List D} (h : IsD c ι H v d) (t : IsDs c ι H vs ds) : IsDs c ι H (v :: vs) (d :: ds)
inductive IsKs (c : Ct) (ι : List Addr) (H : Hp) : List (Key × V) → List (D × D) → Prop
  | nil : IsKs c ι H [] []
  | cons {k : Key} {v : V} {xs : List (Key × V)} {d : D} {kvs : List (D × D)} (h : IsD c ι H v d) (t : IsKs c ι H xs kvs) : IsKs c ι H ((k, v) :: xs) ((keyD k, d) :: kvs)
inductive IsNs (c : Ct) (ι : List Addr) (H : Hp) : List (NestedKey × Addr × Value) → List (D × D) → Prop
  | nil : IsNs c ι H [] []
  | cons {q : Addr} {kd : D} {u : Value} {v : V} {d : D} {xs : List (NestedKey × Addr × Value)} {kvs : List (D × D)} (hk : IsD c ι H (.ref q) kd) (ok : keyOk kd = true) (rv : RelV v u) (h : IsD c ι H v d) (t : IsNs c ι H xs kvs) :
      IsNs c ι H ((nk kd, q, u) :: xs) ((kd, d) :: kvs)
end

/-- the changing object at a holds d -/
inductive Own (c : Ct) (ι : List Addr) (H : Hp) (a : Addr) : D → Prop
  | lst {xs : List V} {ds : List D} (h : H a = some (.lst xs)) (t : IsDs c ι H xs ds) : Own c ι H a (.list ds)
  | dK {xs : List (Key × V)} {kvs : List (D × D)} (h : H a = some (.dK xs)) (t : IsKs c ι H xs kvs) : Own c ι H a (.dict kvs)
  | dN {xs : List (NestedKey × Addr × Value)} {kvs : List (D × D)} (h : H a = some (.ext (DN c a xs))) (t : IsNs c ι H xs kvs) : Own c ι H a (.dict ((.none, .none) :: kvs))

structure Rep (c : Ct) (ι : List Addr) (H : Hp) (M : Sto) : Prop where
  len : ι.length = M.length
  nd : ι.Nodup
  fr : ∀ a ∈ c.F, a ∉ ι ∧ ∃ o, H a = some o
  at_ : ∀ (n : Nat) (a : Addr) (d : D), ι[n]? = some a → M[n]? = some d → Own c ι H a d

inductive IsS (c : Ct) (ι : List Addr) (H : Hp) : V → SV → Prop
  | dat {v : V} {d : D} (h : IsD c ι H v d) : IsS c ι H v (.dat d)
  | ptr {a : Addr} {n : Nat} (h : ι[n]? = some a) : IsS c ι H (.ref a) (.ptr n)

/-- what may have come between two moments: new changing objects, new tracked ones; all that may not change is kept -/
structure Ext (ι : List Addr) (H : Hp) (ι' : List Addr) (H' : Hp) : Prop where
  pre : ∃ l, ι' = ι ++ l ∧ ∀ a ∈ l, H a = none
  keep : ∀ a o, a ∉ ι → H a = some o → H' a = some o
  dom : ∀ a, H' a = none → H a = none

theorem Own.there {c : Ct} {ι : List Addr} {H : Hp} {a : Addr} {d : D} (h : Own c ι H a d) : ∃ o, H a = some o := by
  cases h with
  | lst h _ => exact ⟨_, h⟩
  | dK h _ => exact ⟨_, h⟩
  | dN h _ => exact ⟨_, h⟩
section
variable {c : Ct} {ι ι' ι2 : List Addr} {H H' H2 : Hp}
theorem Ext.refl : Ext ι H ι H := ⟨⟨[], by simp⟩, fun _ _ _ h => h, fun _ h => h⟩
theorem Ext.trans (e : Ext ι H ι' H') (f : Ext ι' H' ι2 H2) : Ext ι H ι2 H2 := by
  obtain ⟨l, rfl, hl⟩ := e.pre
  obtain ⟨l2, rfl, hl2⟩ := f.pre
  refine ⟨⟨l ++ l2, by simp, fun a ha => ?_⟩, fun a o hn h => ?_, fun a h => e.dom a (f.dom a h)⟩
  · rcases List.mem_append.mp ha with h | h
    · exact hl a h
    · exact e.dom a (hl2 a h)
  · refine f.keep a o (fun hm => ?_) (e.keep a o hn h)
    rcases List.mem_append.mp hm with q | q
    · exact hn q
    · rw [hl a q] at h; cases h
theorem Ext.nin (e : Ext ι H ι' H') {a : Addr} {o : HO} (h : H a = some o) (hn : a ∉ ι) : a ∉ ι' := by
  obtain ⟨l, rfl, hl⟩ := e.pre
  intro hm
  rcases List.mem_append.mp hm with q | q
  · exact hn q
  · rw [hl a q] at h; cases h
theorem Ext.at (e : Ext ι H ι' H') {n : Nat} {a : Addr} (h : ι[n]? = some a) : ι'[n]? = some a := by
  obtain ⟨l, rfl, _⟩ := e.pre
  rw [List.getElem?_append_left (List.getElem?_eq_some_iff.mp h).1]
  exact h
mutual
theorem IsD.mono (e : Ext ι H ι' H') : ∀ {v : V} {d : D}, IsD c ι H v d → IsD c ι' H' v d
  | _, _, .non => .non
  | _, _, .bl b => .bl b
  | _, _, .int i => .int i
  | _, _, .str x => .str x
  | _, _, .lst h ha t => .lst (e.keep _ _ ha.2 h) ⟨ha.1, e.nin h ha.2⟩ (IsDs.mono e t)
  | _, _, .tup h t => .tup (h.elim (fun q => .inl ⟨e.keep _ _ q.2.2 q.1, q.2.1, e.nin q.1 q.2.2⟩) .inr) (IsDs.mono e t)
  | _, _, .dK h ha t => .dK (e.keep _ _ ha.2 h) ⟨ha.1, e.nin h ha.2⟩ (IsKs.mono e t)
  | _, _, .dN h ha t => .dN (e.keep _ _ ha.2 h) ⟨ha.1, e.nin h ha.2⟩ (IsNs.mono e t)
theorem IsDs.mono (e : Ext ι H ι' H') : ∀ {v : List V} {d : List D}, IsDs c ι H v d → IsDs c ι' H' v d
  | _, _, .nil => .nil
  | _, _, .cons h t => .cons (IsD.mono e h) (IsDs.mono e t)
theorem IsKs.mono (e : Ext ι H ι' H') : ∀ {v : List (Key × V)} {d : List (D × D)}, IsKs c ι H v d → IsKs c ι' H' v d
  | _, _, .nil => .nil
  | _, _, .cons h t => .cons (IsD.mono e h) (IsKs.mono e t)
theorem IsNs.mono (e : Ext ι H ι' H') : ∀ {v : List (NestedKey × Addr × Value)} {d : List (D × D)}, IsNs c ι H v d → IsNs c ι' H' v d
  | _, _, .nil => .nil
  | _, _, .cons hk ok rv h t => .cons (IsD.mono e hk) ok rv (IsD.mono e h) (IsNs.mono e t)
end
theorem IsS.mono (e : Ext ι H ι' H') {v : V} {s : SV} (h : IsS c ι H v s) : IsS c ι' H' v s := by
  cases h with
  | dat h => exact .dat (h.mono e)
  | ptr h => exact .ptr (e.at h)
theorem IsDs.length : ∀ {vs : List V} {ds : List D}, IsDs c ι H vs ds → vs.length = ds.length
  | _, _, .nil => rfl
  | _, _, .cons _ t => by rw [List.length_cons, List.length_cons, IsDs.length t]
theorem IsDs.get : ∀ {vs : List V} {ds : List D} {i : Nat} {d : D}, IsDs c ι H vs ds → ds[i]? = some d → ∃ v, vs[i]? = some v ∧ IsD c ι H v d
  | _, _, 0, _, .cons h t, e => by
    have e' := Option.some.inj e
    subst e'
    exact ⟨_, rfl, h⟩
  | _, _, i + 1, _, .cons h t, e => IsDs.get (i := i) t e
  | _, _, _, _, .nil, e => by simp at e
theorem IsDs.get' : ∀ {vs : List V} {ds : List D} {i : Nat} {v : V}, IsDs c ι H vs ds → vs[i]? = some v → ∃ d, ds[i]? = some d ∧ IsD c ι H v d
  | _, _, 0, _, .cons h t, e => by
    have e' := Option.some.inj e
    subst e'
    exact ⟨_, rfl, h⟩
  | _, _, i + 1, _, .cons h t, e => IsDs.get' (i := i) t e
  | _, _, _, _, .nil, e => by simp at e
theorem IsDs.append : ∀ {xs ys : List V} {ds es : List D}, IsDs c ι H xs ds → IsDs c ι H ys es → IsDs c ι H (xs ++ ys) (ds ++ es)
  | _, _, _, _, .nil, s => s
  | _, _, _, _, .cons h t, s => .cons h (IsDs.append t s)
theorem IsDs.take : ∀ {xs : List V} {ds : List D} (n : Nat), IsDs c ι H xs ds → IsDs c ι H (xs.take n) (ds.take n)
  | _, _, 0, _ => .nil
  | _, _, _ + 1, .nil => .nil
  | _, _, n + 1, .cons h t => .cons h (IsDs.take n t)
theorem IsDs.drop : ∀ {xs : List V} {ds : List D} (n : Nat), IsDs c ι H xs ds → IsDs c ι H (xs.drop n) (ds.drop n)
  | _, _, 0, h => h
  | _, _, _ + 1, .nil => .nil
  | _, _, n + 1, .cons h t => IsDs.drop n t
theorem IsDs.set {x : V} {d : D} (h : IsD c ι H x d) : ∀ {xs : List V} {ds : List D} (n : Nat), IsDs c ι H xs ds → IsDs c ι H (xs.set n x) (ds.set n d)
  | _, _, _, .nil => .nil
  | _, _, 0, .cons _ t => .cons h t
  | _, _, n + 1, .cons g t => .cons g (IsDs.set h n t)
theorem IsDs.reverse {xs : List V} {ds : List D} (h : IsDs c ι H xs ds) : IsDs c ι H xs.reverse ds.reverse := by
  induction xs generalizing ds with
  | nil => cases h; exact .nil
  | cons x xs ih =>
    cases h with
    | cons h t =>
      rw [List.reverse_cons, List.reverse_cons]
      exact (ih t).append (.cons h .nil)
theorem IsDs.dropLast {xs : List V} {ds : List D} (h : IsDs c ι H xs ds) : IsDs c ι H xs.dropLast ds.dropLast := by
  rw [List.dropLast_eq_take, List.dropLast_eq_take, h.length]
  exact h.take _
theorem IsDs.erase : ∀ {xs : List V} {ds : List D} (n : Nat), IsDs c ι H xs ds → IsDs c ι H (xs.eraseIdx n) (ds.eraseIdx n)
  | _, _, _, .nil => .nil
  | _, _, 0, .cons _ t => t
  | _, _, n + 1, .cons h t => .cons h (IsDs.erase n t)
theorem IsDs.rep {xs : List V} {ds : List D} (h : IsDs c ι H xs ds) : ∀ k : Nat, IsDs c ι H (List.replicate k xs).flatten (List.replicate k ds).flatten
  | 0 => .nil
  | k + 1 => by
    rw [List.replicate_succ, List.replicate_succ, List.flatten_cons, List.flatten_cons]
    exact h.append (IsDs.rep h k)
theorem isDs_ints : ∀ ns : List Int, IsDs c ι H (ns.map V.int) (ns.map PyData.int)
  | [] => .nil
  | n :: ns => .cons (.int n) (isDs_ints ns)
theorem isDs_bls : ∀ ns : List Bool, IsDs c ι H (ns.map V.bl) (ns.map PyData.bool)
  | [] => .nil
  | n :: ns => .cons (.bl n) (isDs_bls ns)
theorem isDs_strs : ∀ ns : List Str, IsDs c ι H (ns.map V.str) (ns.map PyData.str)
  | [] => .nil
  | n :: ns => .cons (.str n) (isDs_strs ns)
theorem IsDs.ints : ∀ {xs : List V} {ns : List Int}, IsDs c ι H xs (ns.map PyData.int) → xs = ns.map V.int
  | [], [], _ => rfl
  | _ :: _, _ :: _, .cons h t => by
    cases h
    rw [List.map_cons, IsDs.ints t]
  | _ :: _, [], h => by cases h
  | [], _ :: _, h => by cases h
theorem IsDs.bls : ∀ {xs : List V} {ns : List Bool}, IsDs c ι H xs (ns.map PyData.bool) → xs = ns.map V.bl
  | [], [], _ => rfl
  | _ :: _, _ :: _, .cons h t => by
    cases h
    rw [List.map_cons, IsDs.bls t]
  | _ :: _, [], h => by cases h
  | [], _ :: _, h => by cases h
theorem IsDs.strs : ∀ {xs : List V} {ns : List Str}, IsDs c ι H xs (ns.map PyData.str) → xs = ns.map V.str
  | [], [], _ => rfl
  | _ :: _, _ :: _, .cons h t => by
    cases h
    rw [List.map_cons, IsDs.strs t]
  | _ :: _, [], h => by cases h
  | [], _ :: _, h => by cases h
/-- other changing objects, all of them among the known ones -/
theorem sub_nin {F F' l l' : List Addr} (s : ∀ a, a ∈ F' ∨ a ∈ l' → a ∈ F ∨ a ∈ l) {a : Addr} (h : a ∉ F ∧ a ∉ l) : a ∉ F' ∧ a ∉ l' := ⟨fun q => (s a (.inl q)).elim h.1 h.2, fun q => (s a (.inr q)).elim h.1 h.2⟩
mutual
theorem IsD.sub {F F' : List Addr} (s : ∀ a, a ∈ F' ∨ a ∈ ι' → a ∈ F ∨ a ∈ ι) : ∀ {v : V} {d : D}, IsD (c.at F) ι H v d → IsD (c.at F') ι' H v d
  | _, _, .non => .non
  | _, _, .bl b => .bl b
  | _, _, .int i => .int i
  | _, _, .str x => .str x
  | _, _, .lst h ha t => .lst h (sub_nin s ha) (IsDs.sub s t)
  | _, _, .tup h t => .tup (h.elim (fun q => .inl ⟨q.1, sub_nin s q.2⟩) .inr) (IsDs.sub s t)
  | _, _, .dK h ha t => .dK h (sub_nin s ha) (IsKs.sub s t)
  | _, _, .dN h ha t => .dN h (sub_nin s ha) (IsNs.sub s t)
theorem IsDs.sub {F F' : List Addr} (s : ∀ a, a ∈ F' ∨ a ∈ ι' → a ∈ F ∨ a ∈ ι) : ∀ {v : List V} {d : List D}, IsDs (c.at F) ι H v d → IsDs (c.at F') ι' H v d
  | _, _, .nil => .nil
  | _, _, .cons h t => .cons (IsD.sub s h) (IsDs.sub s t)
theorem IsKs.sub {F F' : List Addr} (s : ∀ a, a ∈ F' ∨ a ∈ ι' → a ∈ F ∨ a ∈ ι) : ∀ {v : List (Key × V)} {d : List (D × D)}, IsKs (c.at F) ι H v d → IsKs (c.at F') ι' H v d
  | _, _, .nil => .nil
  | _, _, .cons h t => .cons (IsD.sub s h) (IsKs.sub s t)
theorem IsNs.sub {F F' : List Addr} (s : ∀ a, a ∈ F' ∨ a ∈ ι' → a ∈ F ∨ a ∈ ι) : ∀ {v : List (NestedKey × Addr × Value)} {d : List (D × D)}, IsNs (c.at F) ι H v d → IsNs (c.at F') ι' H v d
  | _, _, .nil => .nil
  | _, _, .cons hk ok rv h t => .cons (IsD.sub s hk) ok rv (IsD.sub s h) (IsNs.sub s t)
end
theorem Own.sub {F F' : List Addr} (s : ∀ a, a ∈ F' ∨ a ∈ ι' → a ∈ F ∨ a ∈ ι) {a : Addr} {d : D} (h : Own (c.at F) ι H a d) : Own (c.at F') ι' H a d := by
  cases h with
  | lst h t => exact .lst h (t.sub s)
  | dK h t => exact .dK h (t.sub s)
  | dN h t => exact .dN h (t.sub s)
theorem Own.isD {a : Addr} {d : D} (h : Own c ι H a d) (ha : Nin c ι a) : IsD c ι H (.ref a) d := by
  cases h with
  | lst h t => exact .lst h ha t
  | dK h t => exact .dK h ha t
  | dN h t => exact .dN h ha t
theorem Own.mono (e : Ext ι H ι' H') {a : Addr} {d : D} (h : Own c ι H a d) (ha : ∀ o, H a = some o → H' a = some o) : Own c ι' H' a d := by
  cases h with
  | lst h t => exact .lst (ha _ h) (t.mono e)
  | dK h t => exact .dK (ha _ h) (t.mono e)
  | dN h t => exact .dN (ha _ h) (t.mono e)
theorem Rep.there {M : Sto} (r : Rep c ι H M) {a : Addr} (ha : a ∈ ι) : ∃ o, H a = some o := by
  obtain ⟨n, hn, e⟩ := List.getElem_of_mem ha
  have hm : n < M.length := by rw [← r.len]; exact hn
  exact (r.at_ n a M[n] (by rw [List.getElem?_eq_getElem hn, e]) (List.getElem?_eq_getElem hm)).there
theorem Rep.nin {M : Sto} (r : Rep c ι H M) {p : Addr} (hp : H p = none) : Nin c ι p := by
  constructor
  · intro h
    obtain ⟨_, o, e⟩ := r.fr p h
    rw [hp] at e
    cases e
  · intro h
    obtain ⟨o, e⟩ := r.there h
    rw [hp] at e
    cases e
theorem Ext.new {p : Addr} {o : HO} (hp : H p = none) : Ext ι H ι (upd H p o) := by
  refine ⟨⟨[], by simp⟩, fun a u _ h => ?_, fun a h => ?_⟩
  · rw [upd_ne (ne_of_none h hp)]; exact h
  · by_cases e : a = p
    · rw [e, upd_same] at h; cases h
    · rwa [upd_ne e] at h
/-- a new object that is not to change -/
theorem Rep.new {M : Sto} (r : Rep c ι H M) {p : Addr} {o : HO} (hp : H p = none) : Rep c ι (upd H p o) M :=
  ⟨r.len, r.nd, fun a h => ⟨(r.fr a h).1, let ⟨o, e⟩ := (r.fr a h).2; ⟨o, by rw [upd_ne (ne_of_none e hp)]; exact e⟩⟩, fun n a d e1 e2 => (r.at_ n a d e1 e2).mono (Ext.new hp) fun u h => by rw [upd_ne (ne_of_none h hp)]; exact h⟩
theorem Ext.newP {p : Addr} {o : HO} (hp : H p = none) : Ext ι H (ι ++ [p]) (upd H p o) := by
  refine ⟨⟨[p], rfl, fun a h => ?_⟩, (Ext.new (ι := ι) hp).keep, (Ext.new (ι := ι) hp).dom⟩
  rw [List.mem_singleton.mp h]
  exact hp
/-- a new object that may change -/
theorem Rep.newP {M : Sto} (r : Rep c ι H M) {p : Addr} {o : HO} {d : D} (hp : H p = none) (ho : Own c (ι ++ [p]) (upd H p o) p d) : Rep c (ι ++ [p]) (upd H p o) (M ++ [d]) := by
  refine ⟨by rw [List.length_append, List.length_append, r.len]; rfl, ?_, fun a h => ?_, fun n a e e1 e2 => ?_⟩
  · rw [List.nodup_append]
    refine ⟨r.nd, by simp, fun a ha b hb => ?_⟩
    rw [List.mem_singleton.mp hb]
    intro z
    subst z
    exact (r.nin hp).2 ha
  · obtain ⟨h1, o, e⟩ := r.fr a h
    refine ⟨fun hm => ?_, o, by rw [upd_ne (ne_of_none e hp)]; exact e⟩
    rcases List.mem_append.mp hm with q | q
    · exact h1 q
    · exact ne_of_none e hp (List.mem_singleton.mp q)
  · by_cases hn : n < ι.length
    · have hm : n < M.length := by rw [← r.len]; exact hn
      rw [List.getElem?_append_left hn] at e1
      rw [List.getElem?_append_left hm] at e2
      exact (r.at_ n a e e1 e2).mono (Ext.newP hp) fun u h => by rw [upd_ne (ne_of_none h hp)]; exact h
    · have hn2 : n = ι.length := by
        have := (List.getElem?_eq_some_iff.mp e1).1
        rw [List.length_append, List.length_singleton] at this
        omega
      subst hn2
      rw [List.getElem?_append_right (Nat.le_refl _), Nat.sub_self] at e1
      rw [List.getElem?_append_right (by rw [r.len]; exact Nat.le_refl _), r.len, Nat.sub_self] at e2
      have q1 : p = a := Option.some.inj e1
      have q2 : d = e := Option.some.inj e2
      subst q1 q2
      exact ho
/-- the changing object number n is written -/
theorem Ext.write {n : Nat} {a : Addr} {o : HO} (ha : ι[n]? = some a) : Ext ι H ι (upd H a o) := by
  have hm : a ∈ ι := List.mem_of_getElem? ha
  refine ⟨⟨[], by simp⟩, fun b u hb h => ?_, fun b h => ?_⟩
  · rw [upd_ne (fun z : b = a => hb (by rw [z]; exact hm))]; exact h
  · by_cases e : b = a
    · rw [e, upd_same] at h; cases h
    · rwa [upd_ne e] at h
theorem Rep.write {M : Sto} (r : Rep c ι H M) {n : Nat} {a : Addr} {o : HO} {d : D} (ha : ι[n]? = some a) (ho : Own c ι (upd H a o) a d) : Rep c ι (upd H a o) (M.set n d) := by
  have hma : a ∈ ι := List.mem_of_getElem? ha
  refine ⟨by rw [List.length_set]; exact r.len, r.nd, fun b h => ⟨(r.fr b h).1, let ⟨o, e⟩ := (r.fr b h).2; ⟨o, by rw [upd_ne (fun z : b = a => (r.fr b h).1 (by rw [z]; exact hma))]; exact e⟩⟩, fun m b e e1 e2 => ?_⟩
  by_cases hm : m = n
  · subst hm
    rw [ha] at e1
    have q1 : a = b := Option.some.inj e1
    subst q1
    have hlt : m < M.length := by rw [← r.len]; exact (List.getElem?_eq_some_iff.mp ha).1
    rw [List.getElem?_set_self hlt] at e2
    have q2 : d = e := Option.some.inj e2
    subst q2
    exact ho
  · rw [List.getElem?_set_ne (Ne.symm hm)] at e2
    refine (r.at_ m b e e1 e2).mono (Ext.write ha) fun u h => ?_
    have hb : b ≠ a := fun z => by
      subst z
      exact hm ((List.getElem?_inj (List.getElem?_eq_some_iff.mp e1).1 r.nd).mp (e1.trans ha.symm))
    rw [upd_ne hb]; exact h
end
end DL
namespace DL
open PySem PySem.Spec PyProof.Rows L2

/-- a size that every list, tuple and text keeps below -/
def LIM : Nat := 10000000
theorem lim_lt {n : Nat} (h : n ≤ LIM) : n < sizeLine := Nat.lt_of_le_of_lt h (by decide)
theorem lim_le {n : Nat} (h : n ≤ LIM) : n ≤ sizeLine := Nat.le_of_lt (lim_lt h)

structure Wd (c : Ct) (ι : List Addr) (σ : L2.St) (H : Hp) (Γ : Ga) (M : Sto) : Prop where
  rep : Rep c ι H M
  len : σ.length = Γ.length
  at_ : ∀ (i : Nat) (s : SV), Γ[i]? = some (some s) → ∃ v, σ[i]? = some (some v) ∧ IsS c ι H v s

def Aft (c : Ct) (ι : List Addr) (H : Hp) (M' : Sto) (s : SV) (Q : VK) : Prop :=
  ∀ v ι' H', Ext ι H ι' H' → Rep c ι' H' M' → IsS c ι' H' v s → Q v H'
abbrev DE := Ga → Sto → Option (SV × Sto)
abbrev DT := Ga → Sto → Option (Bool × Sto)
abbrev DA := Ga → Sto → Option (List SV × Sto)
def rdE (c : Ct) (f : DE) : TE := fun σ H Q => ∃ F ι Γ M s M', Wd (c.at F) ι σ H Γ M ∧ f Γ M = some (s, M') ∧ Aft (c.at F) ι H M' s Q
def rdT (c : Ct) (f : DT) : TT := fun σ H Q => ∃ F ι Γ M b M', Wd (c.at F) ι σ H Γ M ∧ f Γ M = some (b, M') ∧ ∀ ι' H', Ext ι H ι' H' → Rep (c.at F) ι' H' M' → Q b H'
inductive IsSs (c : Ct) (ι : List Addr) (H : Hp) : List V → List SV → Prop
  | nil : IsSs c ι H [] []
  | cons {v : V} {vs : List V} {s : SV} {ss : List SV} (h : IsS c ι H v s) (t : IsSs c ι H vs ss) : IsSs c ι H (v :: vs) (s :: ss)
def rdA (c : Ct) (f : DA) : TA := fun σ H Q => ∃ F ι Γ M ss M', Wd (c.at F) ι σ H Γ M ∧ f Γ M = some (ss, M') ∧ ∀ vs ι' H', Ext ι H ι' H' → Rep (c.at F) ι' H' M' → IsSs (c.at F) ι' H' vs ss → Q vs H'

abbrev PD (X : Cx) (e : Expr) (f : DE) : Prop := PE X e (rdE (ctx X) f)
abbrev PDT (X : Cx) (e : Expr) (f : DT) : Prop := PT X e (rdT (ctx X) f)
abbrev PDW (X : Cx) (e : Expr) (f : DT) : Prop := PW X e (rdT (ctx X) f)
abbrev PDA (X : Cx) (es : List Expr) (f : DA) : Prop := PA X es (rdA (ctx X) f)

theorem PE.weak {X : Cx} {e : Expr} {t t' : TE} (h : PE X e t) (w : ∀ σ H Q, t' σ H Q → t σ H Q) : PE X e t' := ⟨fun pins s σ H Q I q => h.run pins s σ H Q I (w σ H Q q)⟩
theorem PT.weak {X : Cx} {e : Expr} {t t' : TT} (h : PT X e t) (w : ∀ σ H Q, t' σ H Q → t σ H Q) : PT X e t' := ⟨fun pins s σ H Q I q => h.run pins s σ H Q I (w σ H Q q)⟩
theorem PW.weak {X : Cx} {e : Expr} {t t' : TT} (h : PW X e t) (w : ∀ σ H Q, t' σ H Q → t σ H Q) : PW X e t' := ⟨fun wh pins s σ H Q I q => h.run wh pins s σ H Q I (w σ H Q q)⟩
theorem PA.weak {X : Cx} {es : List Expr} {t t' : TA} (h : PA X es t) (w : ∀ σ H Q, t' σ H Q → t σ H Q) : PA X es t' := ⟨fun pos pins s σ H Q I q => h.run pos pins s σ H Q I (w σ H Q q)⟩
theorem PS.weak {X : Cx} {st : Stmt} {t t' : TS} (h : PS X st t) (w : ∀ D σ H, t' D σ H → t D σ H) : PS X st t' := ⟨fun pins s σ H D I q => h.run pins s σ H D I (w D σ H q)⟩
theorem PSs.weak {X : Cx} {st : List Stmt} {t t' : TS} (h : PSs X st t) (w : ∀ D σ H, t' D σ H → t D σ H) : PSs X st t' := ⟨fun pins s σ H D I q => h.run pins s σ H D I (w D σ H q)⟩

section
variable {c : Ct} {ι ι' : List Addr} {H H' : Hp} {σ : L2.St} {Γ : Ga} {M M' : Sto}
theorem Wd.next (w : Wd c ι σ H Γ M) (e : Ext ι H ι' H') (r : Rep c ι' H' M') : Wd c ι' σ H' Γ M' :=
  ⟨r, w.len, fun i s h => let ⟨v, h1, h2⟩ := w.at_ i s h; ⟨v, h1, h2.mono e⟩⟩
theorem IsSs.mono (e : Ext ι H ι' H') : ∀ {vs : List V} {ss : List SV}, IsSs c ι H vs ss → IsSs c ι' H' vs ss
  | _, _, .nil => .nil
  | _, _, .cons h t => .cons (h.mono e) (IsSs.mono e t)

/-- what is read off a value: a datum, or what a changing object holds now -/
inductive Rdb (c : Ct) (ι : List Addr) (H : Hp) : V → D → Prop
  | ofD {v : V} {d : D} (h : IsD c ι H v d) : Rdb c ι H v d
  | own {a : Addr} {d : D} (h : Own c ι H a d) : Rdb c ι H (.ref a) d
def val (s : SV) (M : Sto) : Option D := match s with
  | .dat d => some d
  | .ptr n => M[n]?
theorem rdb_of {v : V} {s : SV} {d : D} (r : Rep c ι H M) (h : IsS c ι H v s) (e : val s M = some d) : Rdb c ι H v d := by
  cases h with
  | dat h =>
    cases e
    exact .ofD h
  | ptr h => exact .own (r.at_ _ _ _ h e)
theorem Rdb.int {v : V} {i : Int} (h : Rdb c ι H v (.int i)) : v = .int i := by
  cases h with
  | ofD h => cases h; rfl
  | own h => cases h
theorem Rdb.str {v : V} {i : Str} (h : Rdb c ι H v (.str i)) : v = .str i := by
  cases h with
  | ofD h => cases h; rfl
  | own h => cases h
theorem Rdb.bl {v : V} {i : Bool} (h : Rdb c ι H v (.bool i)) : v = .bl i := by
  cases h with
  | ofD h => cases h; rfl
  | own h => cases h
theorem Rdb.non {v : V} (h : Rdb c ι H v .none) : v = .non := by
  cases h with
  | ofD h => cases h; rfl
  | own h => cases h
theorem Rdb.lst {v : V} {ds : List D} (h : Rdb c ι H v (.list ds)) : ∃ a xs, v = .ref a ∧ H a = some (.lst xs) ∧ IsDs c ι H xs ds := by
  cases h with
  | ofD h => cases h with | lst h _ t => exact ⟨_, _, rfl, h, t⟩
  | own h => cases h with | lst h t => exact ⟨_, _, rfl, h, t⟩
theorem sqT_of {a : Addr} {xs : List V} (h : (H a = some (.tup xs) ∧ Nin c ι a) ∨ wrT c.K a xs) : SqT c.K H a xs := h.elim (fun q => .inl (.inl q.1)) fun ⟨o, its, n, h⟩ => .inr ⟨o, its, n, h⟩
theorem Rdb.tup {v : V} {ds : List D} (h : Rdb c ι H v (.tuple ds)) : ∃ a xs, v = .ref a ∧ SqT c.K H a xs ∧ IsDs c ι H xs ds ∧ IsD c ι H v (.tuple ds) := by
  cases h with
  | ofD h => cases h with | tup h t => exact ⟨_, _, rfl, sqT_of h, t, .tup h t⟩
  | own h => cases h
mutual
theorem IsD.dp : ∀ (d : D) (v : V), d.plain = true → IsD c ι H v d → Dp c.K H v d
  | .none, _, _, h => by cases h; exact .non
  | .bool b, _, _, h => by cases h; exact .bl b
  | .int i, _, _, h => by cases h; exact .int i
  | .str x, _, _, h => by cases h; exact .str x
  | .list ds, _, p, h => by
    cases h with
    | lst h _ t => exact .lst (.of h) (IsDs.dp ds _ (by simpa [PyData.plain] using p) t)
  | .tuple ds, _, p, h => by
    cases h with
    | tup h t => exact .tup (sqT_of h) (IsDs.dp ds _ (by simpa [PyData.plain] using p) t)
  | .dict _, _, p, _ => by simp [PyData.plain] at p
theorem IsDs.dp : ∀ (ds : List D) (vs : List V), PyData.plainAll ds = true → IsDs c ι H vs ds → DpAll c.K H vs ds
  | [], _, _, h => by cases h; exact .nil
  | d :: ds, _, p, h => by
    cases h with
    | cons h t =>
      rw [PyData.plainAll, Bool.and_eq_true] at p
      exact .cons (IsD.dp d _ p.1 h) (IsDs.dp ds _ p.2 t)
end
theorem Rdb.dp {v : V} {d : D} (h : Rdb c ι H v d) (p : d.plain = true) : Dp c.K H v d := by
  cases h with
  | ofD h => exact h.dp d v p
  | own h =>
    cases h with
    | lst h t => exact .lst (.of h) (IsDs.dp _ _ (by simpa [PyData.plain] using p) t)
    | dK h t => simp [PyData.plain] at p
    | dN h _ => simp [PyData.plain] at p
end

/-- a result: a datum, or a new changing object that holds it -/
inductive OR where
  | dat (d : D)
  | new (d : D)
def OR.out (o : OR) (M : Sto) : SV × Sto := match o with
  | .dat d => (.dat d, M)
  | .new d => (.ptr M.length, M ++ [d])
def AftO (c : Ct) (ι : List Addr) (H : Hp) (M : Sto) (o : OR) (Q : VK) : Prop := Aft c ι H (o.out M).2 (o.out M).1 Q
section
variable {c : Ct} {ι : List Addr} {H : Hp} {M : Sto} {Q : VK}
theorem AftO.dat {d : D} {v : V} (h : AftO c ι H M (.dat d) Q) (r : Rep c ι H M) (i : IsD c ι H v d) : Q v H := h v ι H .refl r (.dat i)
theorem AftO.newT {ds : List D} {xs : List V} (h : AftO c ι H M (.dat (.tuple ds)) Q) (r : Rep c ι H M) (i : IsDs c ι H xs ds) {p : Addr} (hp : H p = none) : Q (.ref p) (upd H p (.tup xs)) :=
  h _ ι _ (Ext.new hp) (r.new hp) (.dat (.tup (.inl ⟨upd_same, r.nin hp⟩) (i.mono (Ext.new hp))))
theorem AftO.newL {ds : List D} {xs : List V} (h : AftO c ι H M (.new (.list ds)) Q) (r : Rep c ι H M) (i : IsDs c ι H xs ds) {p : Addr} (hp : H p = none) : Q (.ref p) (upd H p (.lst xs)) :=
  h _ (ι ++ [p]) _ (Ext.newP hp) (r.newP hp (.lst upd_same (i.mono (Ext.newP hp)))) (.ptr (by
    show (ι ++ [p])[M.length]? = some p
    rw [← r.len, List.getElem?_append_right (Nat.le_refl _), Nat.sub_self]; rfl))
end
def R2D (c : Ct) (r : R2) (g : D → D → Option OR) : Prop := ∀ (F ι : List Addr) (H : Hp) (M : Sto) (x y : V) (dx dy : D) (o : OR) (Q : VK), Rep (c.at F) ι H M → Rdb (c.at F) ι H x dx → Rdb (c.at F) ι H y dy → g dx dy = some o → AftO (c.at F) ι H M o Q → r x y H Q
def R1D (c : Ct) (r : V → Hp → VK → Prop) (g : D → Option OR) : Prop := ∀ (F ι : List Addr) (H : Hp) (M : Sto) (x : V) (dx : D) (o : OR) (Q : VK), Rep (c.at F) ι H M → Rdb (c.at F) ι H x dx → g dx = some o → AftO (c.at F) ι H M o Q → r x H Q
inductive Rdbs (c : Ct) (ι : List Addr) (H : Hp) : List V → List D → Prop
  | nil : Rdbs c ι H [] []
  | cons {v : V} {vs : List V} {d : D} {ds : List D} (h : Rdb c ι H v d) (t : Rdbs c ι H vs ds) : Rdbs c ι H (v :: vs) (d :: ds)
def RCD (c : Ct) (r : List V → Hp → VK → Prop) (g : List D → Option OR) : Prop := ∀ (F ι : List Addr) (H : Hp) (M : Sto) (xs : List V) (ds : List D) (o : OR) (Q : VK), Rep (c.at F) ι H M → Rdbs (c.at F) ι H xs ds → g ds = some o → AftO (c.at F) ι H M o Q → r xs H Q

def dVar (i : Nat) : DE := fun Γ M => match Γ[i]? with
  | some (some s) => some (s, M)
  | _ => none
def dC (d : D) : DE := fun _ M => some (.dat d, M)
def dBin (g : D → D → Option OR) (fa fb : DE) : DE := fun Γ M => (fa Γ M).bind fun p => (fb Γ p.2).bind fun q => (val p.1 q.2).bind fun d => (val q.1 q.2).bind fun e => (g d e).map fun o => o.out q.2
def dUn (g : D → Option OR) (fa : DE) : DE := fun Γ M => (fa Γ M).bind fun p => (val p.1 p.2).bind fun d => (g d).map fun o => o.out p.2
def dNil : DA := fun _ M => some ([], M)
def dCons (fa : DE) (fr : DA) : DA := fun Γ M => (fa Γ M).bind fun p => (fr Γ p.2).bind fun q => some (p.1 :: q.1, q.2)
/-- all are data -/
def dats : List SV → Option (List D)
  | [] => some []
  | .dat d :: r => (dats r).map (d :: ·)
  | .ptr _ :: _ => none
def vals : List SV → Sto → Option (List D)
  | [], _ => some []
  | s :: r, M => (val s M).bind fun d => (vals r M).map (d :: ·)
def dTup (fa : DA) : DE := fun Γ M => (fa Γ M).bind fun p => (dats p.1).bind fun ds => if ds.length ≤ LIM then some (.dat (.tuple ds), p.2) else none
def dLst (fa : DA) : DE := fun Γ M => (fa Γ M).bind fun p => (dats p.1).bind fun ds => if ds.length ≤ LIM then some (.ptr p.2.length, p.2 ++ [.list ds]) else none
/-- a new object that is not to change: taken off the store -/
def dFrz (fa : DE) : DE := fun Γ M => (fa Γ M).bind fun p => match p.1 with
  | .ptr n => if M.length ≤ n ∧ n + 1 = p.2.length then (p.2[n]?).map fun d => (.dat d, p.2.dropLast) else none
  | .dat d => some (.dat d, p.2)
def dCB (g : List D → Option OR) (fa : DA) : DE := fun Γ M => (fa Γ M).bind fun p => (vals p.1 p.2).bind fun ds => (g ds).map fun o => o.out p.2
def tVal (fa : DE) : DT := fun Γ M => (fa Γ M).bind fun p => match p.1 with
  | .dat (.bool b) => some (b, p.2)
  | _ => none
def truD : D → Option Bool
  | .none => some false
  | .bool b => some b
  | .int i => some (i != 0)
  | .str x => if x.length ≤ LIM then some ((x.length : Int) != 0) else none
  | .list xs => some (!xs.isEmpty)
  | .tuple xs => some (!xs.isEmpty)
  | .dict kvs => none
def tTru (fa : DE) : DT := fun Γ M => (fa Γ M).bind fun p => (val p.1 p.2).bind fun d => (truD d).map fun b => (b, p.2)
def tAnd_ (fa fb : DT) : DT := fun Γ M => (fa Γ M).bind fun p => if p.1 = true then fb Γ p.2 else some (false, p.2)
def tOr_ (fa fb : DT) : DT := fun Γ M => (fa Γ M).bind fun p => if p.1 = true then some (true, p.2) else fb Γ p.2
def tNot_ (fa : DT) : DT := fun Γ M => (fa Γ M).bind fun p => some (!p.1, p.2)
/-- and, or, not of truth values, as values -/
def dAnd (fa fb : DE) : DE := fun Γ M => (fa Γ M).bind fun p => match p.1 with
  | .dat (.bool true) => fb Γ p.2
  | .dat (.bool false) => some (.dat (.bool false), p.2)
  | _ => none
def dOr (fa fb : DE) : DE := fun Γ M => (fa Γ M).bind fun p => match p.1 with
  | .dat (.bool false) => fb Γ p.2
  | .dat (.bool true) => some (.dat (.bool true), p.2)
  | _ => none
def dIf (fc : DT) (fa fb : DE) : DE := fun Γ M => (fc Γ M).bind fun p => if p.1 = true then fa Γ p.2 else fb Γ p.2
def dChain (g g' : D → D → Option OR) (fa fb fc : DE) : DE := fun Γ M => (fa Γ M).bind fun p => (fb Γ p.2).bind fun q => (val p.1 q.2).bind fun d => (val q.1 q.2).bind fun e => (g d e).bind fun o => match o with
  | .dat (.bool true) => (fc Γ q.2).bind fun r => (val q.1 r.2).bind fun e' => (val r.1 r.2).bind fun f => (g' e' f).map fun o' => o'.out r.2
  | .dat (.bool false) => some (.dat (.bool false), q.2)
  | _ => none

section
variable {X : Cx} {a b e : Expr} {es : List Expr} {fa fb fe : DE} {fr : DA} {pos : Pos}
theorem pd_var (i : Nat) {x : Str} {pos : Pos} (hN : X.N[i]? = some x := by rfl) (hv : Vis X.env.scope x := by first | exact Or.inl rfl | exact Or.inr (Or.inl rfl) | exact Or.inr (Or.inr rfl)) (hd : (x == ("__debug__" : Str)) = false := by decide)
    (hcd : (x == ("__classdict__" : Str)) = false := by decide) : PD X (.Name x pos) (dVar i) :=
  PE.weak (pe_var hN hv hd hcd) fun σ H Q ⟨F, ι, Γ, M, s, M', w, e, k⟩ => by
    unfold dVar at e
    split at e
    · rename_i s' h
      cases e
      obtain ⟨v, h1, h2⟩ := w.at_ _ _ h
      exact ⟨v, h1, k v ι H .refl w.rep h2⟩
    · cases e
theorem pd_c {v : V} {d : D} (h : PE X e (tC v)) (hd : ∀ F ι H, IsD ((ctx X).at F) ι H v d) : PD X e (dC d) :=
  PE.weak h fun σ H Q ⟨F, ι, Γ, M, s, M', w, e, k⟩ => by
    cases e
    exact k v ι H .refl w.rep (.dat (hd F ι H))
theorem pd_int {i j pos} : PD X (.Constant (.int i) j pos) (dC (.int i)) := pd_c pe_int fun _ _ _ => .int i
theorem pd_bl {i j pos} : PD X (.Constant (.bool i) j pos) (dC (.bool i)) := pd_c pe_bl fun _ _ _ => .bl i
theorem pd_non {j pos} : PD X (.Constant .none j pos) (dC .none) := pd_c pe_non fun _ _ _ => .non
theorem pd_str {i j pos} : PD X (.Constant (.str i) j pos) (dC (.str i)) := pd_c pe_str fun _ _ _ => .str i

theorem rd_bin {r : R2} {g : D → D → Option OR} (hr : R2D (ctx X) r g) {σ : L2.St} {H : Hp} {Q : VK} (q : rdE (ctx X) (dBin g fa fb) σ H Q) : tOp r (rdE (ctx X) fa) (rdE (ctx X) fb) σ H Q := by
  obtain ⟨F, ι, Γ, M, s, M', w, e, k⟩ := q
  obtain ⟨⟨sa, M1⟩, e1, e⟩ := Option.bind_eq_some_iff.mp e
  obtain ⟨⟨sb, M2⟩, e2, e⟩ := Option.bind_eq_some_iff.mp e
  obtain ⟨da, e3, e⟩ := Option.bind_eq_some_iff.mp e
  obtain ⟨db, e4, e⟩ := Option.bind_eq_some_iff.mp e
  obtain ⟨o, e5, e⟩ := Option.map_eq_some_iff.mp e
  refine ⟨F, ι, Γ, M, sa, M1, w, e1, fun v ι1 H1 x1 r1 i1 => ?_⟩
  refine ⟨F, ι1, Γ, M1, sb, M2, w.next x1 r1, e2, fun u ι2 H2 x2 r2 i2 => ?_⟩
  refine hr F ι2 H2 M2 v u da db o Q r2 (rdb_of r2 (i1.mono x2) e3) (rdb_of r2 i2 e4) e5 fun v' ι3 H3 x3 r3 i3 => ?_
  simp only [e] at r3 i3
  exact k v' ι3 H3 (x1.trans (x2.trans x3)) r3 i3
theorem pd_op {op : Operator} {r : R2} {g : D → D → Option OR} (ho : OpR X (binaryOp op) r) (hr : R2D (ctx X) r g) (ha : PD X a fa) (hb : PD X b fb) : PD X (.BinOp a op b pos) (dBin g fa fb) :=
  PE.weak (pe_op ho ha hb) fun _ _ _ => rd_bin hr
theorem pd_cmp {op : CmpOp} {r : R2} {g : D → D → Option OR} (ho : OpR X (compareOp op) r) (hr : R2D (ctx X) r g) (ha : PD X a fa) (hb : PD X b fb) (hm : behindInMarks op b = false) : PD X (.Compare a [op] [b] pos) (dBin g fa fb) :=
  PE.weak (pe_cmpR ho ha hb hm) fun _ _ _ => rd_bin hr
theorem pd_un {op : UnaryOp} {r : V → Hp → VK → Prop} {g : D → Option OR} (ho : UnR X (unaryOp op) r) (hr : R1D (ctx X) r g) (ha : PD X a fa) : PD X (.UnaryOp op a pos) (dUn g fa) :=
  PE.weak (pe_un ho ha) fun σ H Q ⟨F, ι, Γ, M, s, M', w, e, k⟩ => by
    obtain ⟨⟨sa, M1⟩, e1, e⟩ := Option.bind_eq_some_iff.mp e
    obtain ⟨da, e3, e⟩ := Option.bind_eq_some_iff.mp e
    obtain ⟨o, e5, e⟩ := Option.map_eq_some_iff.mp e
    refine ⟨F, ι, Γ, M, sa, M1, w, e1, fun v ι1 H1 x1 r1 i1 => ?_⟩
    refine hr F ι1 H1 M1 v da o Q r1 (rdb_of r1 i1 e3) e5 fun v' ι3 H3 x3 r3 i3 => ?_
    simp only [e] at r3 i3
    exact k v' ι3 H3 (x1.trans x3) r3 i3
theorem pda_nil : PDA X [] dNil := PA.weak pa_nil fun σ H Q ⟨F, ι, Γ, M, s, M', w, e, k⟩ => by
  cases e
  exact k [] ι H .refl w.rep .nil
theorem pda_cons (ha : PD X e fe) (hr : PDA X es fr) (hs : starEach (e :: es) X.env = (false, eval e X.env) :: starEach es X.env := by rfl) : PDA X (e :: es) (dCons fe fr) :=
  PA.weak (pa_cons ha hr hs) fun σ H Q ⟨F, ι, Γ, M, s, M', w, e, k⟩ => by
    obtain ⟨⟨sa, M1⟩, e1, e⟩ := Option.bind_eq_some_iff.mp e
    obtain ⟨⟨ss, M2⟩, e2, e⟩ := Option.bind_eq_some_iff.mp e
    cases e
    refine ⟨F, ι, Γ, M, sa, M1, w, e1, fun v ι1 H1 x1 r1 i1 => ?_⟩
    refine ⟨F, ι1, Γ, M1, ss, M2, w.next x1 r1, e2, fun vs ι2 H2 x2 r2 i2 => ?_⟩
    exact k _ ι2 H2 (x1.trans x2) r2 (.cons (i1.mono x2) i2)
theorem dats_ok {c : Ct} {ι : List Addr} {H : Hp} : ∀ {ss : List SV} {ds : List D} {vs : List V}, dats ss = some ds → IsSs c ι H vs ss → IsDs c ι H vs ds
  | [], ds, vs, e, h => by
    cases e
    cases h
    exact .nil
  | .dat d :: r, ds, vs, e, h => by
    obtain ⟨ds', e', rfl⟩ := Option.map_eq_some_iff.mp e
    cases h with
    | cons h t =>
      cases h with
      | dat h => exact .cons h (dats_ok e' t)
  | .ptr _ :: _, _, _, e, _ => by cases e
theorem vals_ok {c : Ct} {ι : List Addr} {H : Hp} {M : Sto} (r : Rep c ι H M) : ∀ {ss : List SV} {ds : List D} {vs : List V}, vals ss M = some ds → IsSs c ι H vs ss → Rdbs c ι H vs ds
  | [], ds, vs, e, h => by
    cases e
    cases h
    exact .nil
  | s :: ss, ds, vs, e, h => by
    obtain ⟨d, e1, e⟩ := Option.bind_eq_some_iff.mp e
    obtain ⟨ds', e', rfl⟩ := Option.map_eq_some_iff.mp e
    cases h with
    | cons h t => exact .cons (rdb_of r h e1) (vals_ok r e' t)
theorem pd_tup {x1} (h : PDA X es fr) : PD X (.Tuple es x1 pos) (dTup fr) :=
  PE.weak (pe_tup h) fun σ H Q ⟨F, ι, Γ, M, s, M', w, e, k⟩ => by
    obtain ⟨⟨ss, M1⟩, e1, e⟩ := Option.bind_eq_some_iff.mp e
    obtain ⟨ds, e2, e⟩ := Option.bind_eq_some_iff.mp e
    split at e
    · rename_i hl
      cases e
      refine ⟨F, ι, Γ, M, ss, M1, w, e1, fun vs ι1 H1 x1 r1 i1 => ?_⟩
      have i2 := dats_ok e2 i1
      refine ⟨by rw [i2.length]; exact lim_le hl, fun p hp => ?_⟩
      exact k _ ι1 _ (x1.trans (Ext.new hp)) (r1.new hp) (.dat (.tup (.inl ⟨upd_same, r1.nin hp⟩) (i2.mono (Ext.new hp))))
    · cases e
theorem ptr_last {ι : List Addr} {M : Sto} {p : Addr} (h : ι.length = M.length) : (ι ++ [p])[M.length]? = some p := by
  rw [← h, List.getElem?_append_right (Nat.le_refl _), Nat.sub_self]; rfl
theorem pd_lst (h : PDA X es fr) : PD X (.List es pos) (dLst fr) :=
  PE.weak (pe_lst h) fun σ H Q ⟨F, ι, Γ, M, s, M', w, e, k⟩ => by
    obtain ⟨⟨ss, M1⟩, e1, e⟩ := Option.bind_eq_some_iff.mp e
    obtain ⟨ds, e2, e⟩ := Option.bind_eq_some_iff.mp e
    split at e
    · rename_i hl
      cases e
      refine ⟨F, ι, Γ, M, ss, M1, w, e1, fun vs ι1 H1 x1 r1 i1 => ?_⟩
      have i2 := dats_ok e2 i1
      refine ⟨by rw [i2.length]; exact lim_le hl, fun p hp => ?_⟩
      exact k _ (ι1 ++ [p]) _ (x1.trans (Ext.newP hp)) (r1.newP hp (.lst upd_same (i2.mono (Ext.newP hp)))) (.ptr (ptr_last r1.len))
    · cases e
theorem Rep.drop {c : Ct} {ι : List Addr} {H : Hp} {M : Sto} {p : Addr} {d : D} (r : Rep c (ι ++ [p]) H (M ++ [d])) : Rep c ι H M ∧ IsD c ι H (.ref p) d := by
  have hl : ι.length = M.length := by
    have := r.len
    rw [List.length_append, List.length_append] at this
    simpa using this
  have hs : ∀ a, a ∈ c.F ∨ a ∈ ι → a ∈ c.F ∨ a ∈ ι ++ [p] := fun a h => h.imp id fun h => List.mem_append_left _ h
  refine ⟨⟨hl, (List.nodup_append.mp r.nd).1, fun a h => ⟨fun q => (r.fr a h).1 (List.mem_append_left _ q), (r.fr a h).2⟩, fun n a d' h1 h2 => ?_⟩, ?_⟩
  · refine (r.at_ n a d' ?_ ?_).sub (c := c) hs
    · rw [List.getElem?_append_left (List.getElem?_eq_some_iff.mp h1).1]; exact h1
    · rw [List.getElem?_append_left (List.getElem?_eq_some_iff.mp h2).1]; exact h2
  · have h := r.at_ M.length p d (ptr_last hl) (by rw [List.getElem?_append_right (Nat.le_refl _), Nat.sub_self]; rfl)
    refine (h.sub (c := c) hs).isD ⟨fun hm => (r.fr p hm).1 (List.mem_append_right _ (List.mem_singleton.mpr rfl)), fun hm => ?_⟩
    exact (List.nodup_append.mp r.nd).2.2 p hm p (List.mem_singleton.mpr rfl) rfl
theorem getLast_split {α : Type} {M : List α} {n : Nat} {d : α} (hn : n + 1 = M.length) (h : M[n]? = some d) : M = M.dropLast ++ [d] := by
  have hne : M ≠ [] := fun z => by rw [z] at hn; cases hn
  have e := List.dropLast_concat_getLast hne
  have q : M.getLast hne = d := by
    rw [List.getLast_eq_getElem]
    have hn' : n < M.length := by omega
    rw [List.getElem?_eq_getElem hn'] at h
    have h' := Option.some.inj h
    rw [← h']
    congr 1
    omega
  rw [q] at e
  exact e.symm
/-- the store's last object is taken off -/
theorem Rep.frz {c : Ct} {ι ι' : List Addr} {H H' : Hp} {M' : Sto} {n : Nat} {d : D} (r : Rep c ι' H' M') (x : Ext ι H ι' H') (h1 : ι.length ≤ n) (h2 : n + 1 = M'.length) (hd : M'[n]? = some d) {v : V} (i : IsS c ι' H' v (.ptr n)) :
    ∃ ι2, Ext ι H ι2 H' ∧ Rep c ι2 H' M'.dropLast ∧ IsD c ι2 H' v d := by
  cases i with
  | @ptr a _ ha =>
    have hι : ι' = ι'.dropLast ++ [a] := getLast_split (by rw [r.len]; exact h2) ha
    have hM : M' = M'.dropLast ++ [d] := getLast_split h2 hd
    rw [hι, hM] at r
    obtain ⟨r1, i1⟩ := r.drop
    refine ⟨ι'.dropLast, ?_, r1, i1⟩
    obtain ⟨l, e, hl⟩ := x.pre
    have hln : l ≠ [] := fun z => by
      rw [z, List.append_nil] at e
      have h3 := (List.getElem?_eq_some_iff.mp ha).1
      rw [e] at h3
      omega
    refine ⟨⟨l.dropLast, by rw [e, List.dropLast_append_of_ne_nil hln], fun b hb => hl b ((List.dropLast_sublist l).subset hb)⟩, x.keep, x.dom⟩
theorem pd_frz (h : PD X e fe) : PD X e (dFrz fe) :=
  PE.weak h fun σ H Q ⟨F, ι, Γ, M, s, M', w, e, k⟩ => by
    obtain ⟨⟨sa, M1⟩, e1, e⟩ := Option.bind_eq_some_iff.mp e
    refine ⟨F, ι, Γ, M, sa, M1, w, e1, fun v ι1 H1 x1 r1 i1 => ?_⟩
    cases sa with
    | dat d =>
      cases e
      exact k v ι1 H1 x1 r1 i1
    | ptr n =>
      simp only at e
      split at e
      · rename_i hc
        obtain ⟨d, hd, e⟩ := Option.map_eq_some_iff.mp e
        cases e
        obtain ⟨ι2, x2, r2, i2⟩ := Rep.frz r1 x1 (by rw [w.rep.len]; exact hc.1) hc.2 hd i1
        exact k v ι2 H1 x2 r2 (.dat i2)
      · cases e
theorem rd_cb {r : List V → Hp → VK → Prop} {g : List D → Option OR} (hr : RCD (ctx X) r g) {σ : L2.St} {H : Hp} {Q : VK} (q : rdE (ctx X) (dCB g fr) σ H Q) : tCB r (rdA (ctx X) fr) σ H Q := by
  obtain ⟨F, ι, Γ, M, s, M', w, e, k⟩ := q
  obtain ⟨⟨ss, M1⟩, e1, e⟩ := Option.bind_eq_some_iff.mp e
  obtain ⟨ds, e2, e⟩ := Option.bind_eq_some_iff.mp e
  obtain ⟨o, e5, e⟩ := Option.map_eq_some_iff.mp e
  refine ⟨F, ι, Γ, M, ss, M1, w, e1, fun vs ι1 H1 x1 r1 i1 => ?_⟩
  refine hr F ι1 H1 M1 vs ds o Q r1 (vals_ok r1 e2 i1) e5 fun v' ι3 H3 x3 r3 i3 => ?_
  simp only [e] at r3 i3
  exact k v' ι3 H3 (x1.trans x3) r3 i3
theorem pd_cb {id : String} {x : Str} {p : Pos} {r : List V → Hp → VK → Prop} {g : List D → Option OR} (hr : RCD (ctx X) r g) (hc : CallR X (.builtin id) r) (hg : Gl X x) (hm : X.mg x = none) (hv : bootBuiltins x = some (.builtin id)) (ha : PDA X (e :: es) fr) (hn : x ≠ "__name__" := by decide) (hdb : (x == ("__debug__" : Str)) = false := by decide)
    (he : starEach (e :: es) X.env = (false, eval e X.env) :: starEach es X.env := by rfl) (hpl : (backTo pos (starEach es X.env)).any (·.1) = false := by rfl) : PD X (.Call (.Name x p) (e :: es) [] pos) (dCB g fr) :=
  PE.weak (pe_callB hc hg hm hv ha hn hdb he hpl) fun _ _ _ => rd_cb hr
theorem pd_cty {T : String} {x : Str} {p : Pos} {r : List V → Hp → VK → Prop} {g : List D → Option OR} (hr : RCD (ctx X) r g) (hc : CallR X (.type T) r) (hg : Gl X x) (hm : X.mg x = none) (hv : bootBuiltins x = some (.type T)) (ha : PDA X (e :: es) fr) (hn : x ≠ "__name__" := by decide) (hdb : (x == ("__debug__" : Str)) = false := by decide)
    (he : starEach (e :: es) X.env = (false, eval e X.env) :: starEach es X.env := by rfl) (hpl : (backTo pos (starEach es X.env)).any (·.1) = false := by rfl) : PD X (.Call (.Name x p) (e :: es) [] pos) (dCB g fr) :=
  PE.weak (pe_callTy hc hg hm hv ha hn hdb he hpl) fun _ _ _ => rd_cb hr
theorem rd_val {σ : L2.St} {H : Hp} {Q : Bool → Hp → Prop} (q : rdT (ctx X) (tVal fa) σ H Q) : (rdE (ctx X) fa) σ H fun x H1 => ∃ c, x = .bl c ∧ Q c H1 := by
  obtain ⟨F, ι, Γ, M, b, M', w, e, k⟩ := q
  obtain ⟨⟨sa, M1⟩, e1, e⟩ := Option.bind_eq_some_iff.mp e
  refine ⟨F, ι, Γ, M, sa, M1, w, e1, fun v ι1 H1 x1 r1 i1 => ?_⟩
  split at e
  · rename_i b' heq
    cases e
    simp only at heq
    subst heq
    cases i1 with
    | dat i1 =>
      cases i1
      exact ⟨_, rfl, k ι1 H1 x1 r1⟩
  · cases e
theorem pdt_cmp {op : CmpOp} {r : R2} {g : D → D → Option OR} (ho : OpR X (compareOp op) r) (hr : R2D (ctx X) r g) (ha : PD X a fa) (hb : PD X b fb) (hm : behindInMarks op b = false) : PDT X (.Compare a [op] [b] pos) (tVal (dBin g fa fb)) :=
  PT.weak (pt_cmpR ho ha hb hm) fun σ H Q q => rd_bin (fa := fa) (fb := fb) hr (rd_val q)
theorem pdt_val (h : PD X e fa) (he : ∀ whole, isTrue e X.env whole = (do let v ← whole; standAt e.pos; holding [v] (truthy v)) := by intro _; rfl) : PDT X e (tVal fa) :=
  PT.weak (pt_val h he) fun σ H Q q => rd_val q
theorem isEmpty_len {α β : Type} {xs : List α} {ys : List β} (h : xs.length = ys.length) : xs.isEmpty = ys.isEmpty := by
  cases xs <;> cases ys <;> first | rfl | cases h
theorem pdt_tru (h : PD X a fa) (he : ∀ whole, isTrue a X.env whole = (do let v ← whole; standAt a.pos; holding [v] (truthy v)) := by intro _; rfl) : PDT X a (tTru fa) :=
  PT.weak (pt_truth h he) fun σ H Q ⟨F, ι, Γ, M, b, M', w, e, k⟩ => by
    obtain ⟨⟨sa, M1⟩, e1, e⟩ := Option.bind_eq_some_iff.mp e
    obtain ⟨d, e2, e⟩ := Option.bind_eq_some_iff.mp e
    obtain ⟨b', e3, e⟩ := Option.map_eq_some_iff.mp e
    cases e
    refine ⟨F, ι, Γ, M, sa, M1, w, e1, fun v ι1 H1 x1 r1 i1 => ⟨b, ?_, k ι1 H1 x1 r1⟩⟩
    have R := rdb_of r1 i1 e2
    cases d with
    | none => cases R.non; cases e3; rfl
    | bool y => cases R.bl; cases e3; rfl
    | int y => cases R.int; cases e3; rfl
    | str y =>
      cases R.str
      unfold truD at e3
      simp only at e3
      split at e3
      · rename_i hl
        cases e3
        exact ⟨lim_le hl, rfl⟩
      · cases e3
    | list xs =>
      obtain ⟨p, ys, rfl, hp, hi⟩ := R.lst
      cases e3
      exact .inl ⟨ys, .of hp, by rw [isEmpty_len hi.length]⟩
    | tuple xs =>
      obtain ⟨p, ys, rfl, hp, hi, _⟩ := R.tup
      cases e3
      exact .inr (.inl ⟨ys, hp, by rw [isEmpty_len hi.length]⟩)
    | dict kvs => cases e3
end
end DL
namespace DL
open PySem PySem.Spec PyProof.Rows L2
section
variable {X : Cx} {a b e d : Expr} {es : List Expr} {fa fb fe fd : DE} {ta tb : DT} {fr : DA} {pos : Pos} {rest : List Expr}
theorem pdt_not (h : PDT X a ta) : PDT X (.UnaryOp .Not a pos) (tNot_ ta) :=
  PT.weak (pt_not h) fun σ H Q ⟨F, ι, Γ, M, c, M', w, e, k⟩ => by
    obtain ⟨⟨s, M1⟩, e1, e⟩ := Option.bind_eq_some_iff.mp e
    cases e
    exact ⟨F, ι, Γ, M, s, M1, w, e1, k⟩
theorem pdw_and1 (h : PDT X a ta) : PDW X (.BoolOp .And [a] pos) ta := pw_and1 h
theorem pdw_or1 (h : PDT X a ta) : PDW X (.BoolOp .Or [a] pos) ta := pw_or1 h
theorem pdw_and (ha : PDT X a ta) (hb : PDW X (.BoolOp .And (b :: rest) pos) tb) : PDW X (.BoolOp .And (a :: b :: rest) pos) (tAnd_ ta tb) :=
  PW.weak (pw_and ha hb) fun σ H Q ⟨F, ι, Γ, M, c, M', w, e, k⟩ => by
    obtain ⟨⟨s, M1⟩, e1, e⟩ := Option.bind_eq_some_iff.mp e
    refine ⟨F, ι, Γ, M, s, M1, w, e1, fun ι1 H1 x1 r1 => ?_⟩
    cases s with
    | true =>
      rw [if_pos rfl] at e
      exact iteT ⟨F, ι1, Γ, M1, c, M', w.next x1 r1, e, fun ι2 H2 x2 r2 => k ι2 H2 (x1.trans x2) r2⟩
    | false =>
      rw [if_neg Bool.false_ne_true] at e
      cases e
      exact iteF (k ι1 H1 x1 r1)
theorem pdw_or (ha : PDT X a ta) (hb : PDW X (.BoolOp .Or (b :: rest) pos) tb) : PDW X (.BoolOp .Or (a :: b :: rest) pos) (tOr_ ta tb) :=
  PW.weak (pw_or ha hb) fun σ H Q ⟨F, ι, Γ, M, c, M', w, e, k⟩ => by
    obtain ⟨⟨s, M1⟩, e1, e⟩ := Option.bind_eq_some_iff.mp e
    refine ⟨F, ι, Γ, M, s, M1, w, e1, fun ι1 H1 x1 r1 => ?_⟩
    cases s with
    | true =>
      rw [if_pos rfl] at e
      cases e
      exact iteT (k ι1 H1 x1 r1)
    | false =>
      rw [if_neg Bool.false_ne_true] at e
      exact iteF ⟨F, ι1, Γ, M1, c, M', w.next x1 r1, e, fun ι2 H2 x2 r2 => k ι2 H2 (x1.trans x2) r2⟩
theorem pdt_w (h : PDW X e ta) : PDT X e ta := PW.pt h
theorem pd_one {op : BoolOp} (h : PD X a fa) : PD X (.BoolOp op [a] pos) fa := pe_one h
theorem pd_and (ha : PD X a fa) (hb : PD X (.BoolOp .And (b :: rest) pos) fb) : PD X (.BoolOp .And (a :: b :: rest) pos) (dAnd fa fb) :=
  PE.weak (pe_and ha hb) fun σ H Q ⟨F, ι, Γ, M, s, M', w, e, k⟩ => by
    obtain ⟨⟨sa, M1⟩, e1, e⟩ := Option.bind_eq_some_iff.mp e
    refine ⟨F, ι, Γ, M, sa, M1, w, e1, fun v ι1 H1 x1 r1 i1 => ?_⟩
    split at e
    · rename_i heq
      simp only at heq
      subst heq
      cases i1 with | dat i1 => cases i1; exact ⟨true, rfl, iteT ⟨F, ι1, Γ, M1, s, M', w.next x1 r1, e, fun v2 ι2 H2 x2 r2 i2 => k v2 ι2 H2 (x1.trans x2) r2 i2⟩⟩
    · rename_i heq
      simp only at heq
      subst heq
      cases e
      cases i1 with | dat i1 => cases i1; exact ⟨false, rfl, iteF (k _ ι1 H1 x1 r1 (.dat (.bl false)))⟩
    · cases e
theorem pd_or (ha : PD X a fa) (hb : PD X (.BoolOp .Or (b :: rest) pos) fb) : PD X (.BoolOp .Or (a :: b :: rest) pos) (dOr fa fb) :=
  PE.weak (pe_or ha hb) fun σ H Q ⟨F, ι, Γ, M, s, M', w, e, k⟩ => by
    obtain ⟨⟨sa, M1⟩, e1, e⟩ := Option.bind_eq_some_iff.mp e
    refine ⟨F, ι, Γ, M, sa, M1, w, e1, fun v ι1 H1 x1 r1 i1 => ?_⟩
    split at e
    · rename_i heq
      simp only at heq
      subst heq
      cases i1 with | dat i1 => cases i1; exact ⟨false, rfl, iteF ⟨F, ι1, Γ, M1, s, M', w.next x1 r1, e, fun v2 ι2 H2 x2 r2 i2 => k v2 ι2 H2 (x1.trans x2) r2 i2⟩⟩
    · rename_i heq
      simp only at heq
      subst heq
      cases e
      cases i1 with | dat i1 => cases i1; exact ⟨true, rfl, iteT (k _ ι1 H1 x1 r1 (.dat (.bl true)))⟩
    · cases e
def oNot : D → Option OR := fun d => (truD d).map fun b => .dat (.bool (!b))
theorem truV_of {c : Ct} {ι : List Addr} {H : Hp} {v : V} {d : D} {b : Bool} (R : Rdb c ι H v d) (e3 : truD d = some b) : TruV c.K v H b := by
  cases d with
  | none => cases R.non; cases e3; rfl
  | bool y => cases R.bl; cases e3; rfl
  | int y => cases R.int; cases e3; rfl
  | str y =>
    cases R.str
    unfold truD at e3
    simp only at e3
    split at e3
    · rename_i hl
      cases e3
      exact ⟨lim_le hl, rfl⟩
    · cases e3
  | list xs =>
    obtain ⟨p, ys, rfl, hp, hi⟩ := R.lst
    cases e3
    exact .inl ⟨ys, .of hp, by rw [isEmpty_len hi.length]⟩
  | tuple xs =>
    obtain ⟨p, ys, rfl, hp, hi, _⟩ := R.tup
    cases e3
    exact .inr (.inl ⟨ys, hp, by rw [isEmpty_len hi.length]⟩)
  | dict kvs => cases e3
theorem pd_not (ha : PD X a fa) : PD X (.UnaryOp .Not a pos) (dUn oNot fa) :=
  PE.weak (pe_notT ha) fun σ H Q ⟨F, ι, Γ, M, s, M', w, e, k⟩ => by
    obtain ⟨⟨sa, M1⟩, e1, e⟩ := Option.bind_eq_some_iff.mp e
    obtain ⟨da, e3, e⟩ := Option.bind_eq_some_iff.mp e
    obtain ⟨o, e5, e⟩ := Option.map_eq_some_iff.mp e
    obtain ⟨b, e6, rfl⟩ := Option.map_eq_some_iff.mp e5
    cases e
    refine ⟨F, ι, Γ, M, sa, M1, w, e1, fun v ι1 H1 x1 r1 i1 => ?_⟩
    exact ⟨b, truV_of (c := (ctx X).at F) (rdb_of r1 i1 e3) e6, k _ ι1 H1 x1 r1 (.dat (.bl _))⟩
theorem pd_ifExp {c : Expr} (hc : PDT X c ta) (ha : PD X a fa) (hb : PD X b fb) : PD X (.IfExp c a b pos) (dIf ta fa fb) :=
  PE.weak (pe_ifExp hc ha hb) fun σ H Q ⟨F, ι, Γ, M, s, M', w, e, k⟩ => by
    obtain ⟨⟨t, M1⟩, e1, e⟩ := Option.bind_eq_some_iff.mp e
    refine ⟨F, ι, Γ, M, t, M1, w, e1, fun ι1 H1 x1 r1 => ?_⟩
    cases t with
    | true =>
      rw [if_pos rfl] at e
      exact iteT ⟨F, ι1, Γ, M1, s, M', w.next x1 r1, e, fun v2 ι2 H2 x2 r2 i2 => k v2 ι2 H2 (x1.trans x2) r2 i2⟩
    | false =>
      rw [if_neg Bool.false_ne_true] at e
      exact iteF ⟨F, ι1, Γ, M1, s, M', w.next x1 r1, e, fun v2 ι2 H2 x2 r2 i2 => k v2 ι2 H2 (x1.trans x2) r2 i2⟩
theorem rd_chain {r r' : R2} {g g' : D → D → Option OR} (hr : R2D (ctx X) r g) (hr' : R2D (ctx X) r' g') {σ : L2.St} {H : Hp} {Q : VK} (q : rdE (ctx X) (dChain g g' fa fb fd) σ H Q) : tChain r r' (rdE (ctx X) fa) (rdE (ctx X) fb) (rdE (ctx X) fd) σ H Q := by
  obtain ⟨F, ι, Γ, M, s, M', w, e, k⟩ := q
  obtain ⟨⟨sa, M1⟩, e1, e⟩ := Option.bind_eq_some_iff.mp e
  obtain ⟨⟨sb, M2⟩, e2, e⟩ := Option.bind_eq_some_iff.mp e
  obtain ⟨da, e3, e⟩ := Option.bind_eq_some_iff.mp e
  obtain ⟨db, e4, e⟩ := Option.bind_eq_some_iff.mp e
  obtain ⟨o, e5, e⟩ := Option.bind_eq_some_iff.mp e
  refine ⟨F, ι, Γ, M, sa, M1, w, e1, fun v ι1 H1 x1 r1 i1 => ?_⟩
  refine ⟨F, ι1, Γ, M1, sb, M2, w.next x1 r1, e2, fun u ι2 H2 x2 r2 i2 => ?_⟩
  refine hr F ι2 H2 M2 v u da db o _ r2 (rdb_of r2 (i1.mono x2) e3) (rdb_of r2 i2 e4) e5 fun v' ι3 H3 x3 r3 i3 => ?_
  split at e
  · cases i3 with
    | dat i3 =>
      cases i3
      obtain ⟨⟨sd, M4⟩, e6, e⟩ := Option.bind_eq_some_iff.mp e
      obtain ⟨db', e7, e⟩ := Option.bind_eq_some_iff.mp e
      obtain ⟨dd, e8, e⟩ := Option.bind_eq_some_iff.mp e
      obtain ⟨o', e9, e⟩ := Option.map_eq_some_iff.mp e
      refine ⟨true, rfl, iteT ?_⟩
      refine ⟨F, ι3, Γ, M2, sd, M4, (w.next (x1.trans x2) r2).next x3 r3, e6, fun v4 ι4 H4 x4 r4 i4 => ?_⟩
      refine hr' F ι4 H4 M4 u v4 db' dd o' Q r4 (rdb_of r4 ((i2.mono x3).mono x4) e7) (rdb_of r4 i4 e8) e9 fun v5 ι5 H5 x5 r5 i5 => ?_
      simp only [e] at r5 i5
      exact k v5 ι5 H5 (x1.trans (x2.trans (x3.trans (x4.trans x5)))) r5 i5
  · cases e
    cases i3 with
    | dat i3 =>
      cases i3
      exact ⟨false, rfl, iteF (k _ ι3 H3 (x1.trans (x2.trans x3)) r3 (.dat (.bl false)))⟩
  · cases e
theorem pd_chain {op op' : CmpOp} {r r' : R2} {g g' : D → D → Option OR} (ho : OpR X (compareOp op) r) (hr : R2D (ctx X) r g) (ho' : OpR X (compareOp op') r') (hr' : R2D (ctx X) r' g') (ha : PD X a fa) (hb : PD X b fb) (hd : PD X d fd)
    (hm : lastMarks [op, op'] [b, d] = false := by with_unfolding_all rfl) : PD X (.Compare a [op, op'] [b, d] pos) (dChain g g' fa fb fd) :=
  PE.weak (pe_chain ho ho' ha hb hd hm) fun _ _ _ => rd_chain hr hr'
theorem pdt_chain {op op' : CmpOp} {r r' : R2} {g g' : D → D → Option OR} (ho : OpR X (compareOp op) r) (hr : R2D (ctx X) r g) (ho' : OpR X (compareOp op') r') (hr' : R2D (ctx X) r' g') (ha : PD X a fa) (hb : PD X b fb) (hd : PD X d fd)
    (hm : lastMarks [op, op'] [b, d] = false := by with_unfolding_all rfl) : PDT X (.Compare a [op, op'] [b, d] pos) (tVal (dChain g g' fa fb fd)) :=
  PT.weak (pt_chain ho ho' ha hb hd hm) fun σ H Q q => rd_chain hr hr' (rd_val q)
end

theorem R2D.or {c : Ct} {r r' : R2} {g g' : D → D → Option OR} (h : R2D c r g) (h' : R2D c r' g') : R2D c (fun x y H Q => r x y H Q ∨ r' x y H Q) (fun d e => match g d e with
    | some o => some o
    | none => g' d e) := fun F ι H M x y dx dy o Q rp rx ry e k => by
  dsimp only at e
  split at e
  · rename_i o' h1
    cases e
    exact .inl (h F ι H M x y dx dy _ Q rp rx ry h1 k)
  · exact .inr (h' F ι H M x y dx dy _ Q rp rx ry e k)
def gI (C : Int → Int → Bool) (g : Int → Int → D) : D → D → Option OR
  | .int i, .int j => if C i j then some (.dat (g i j)) else none
  | _, _ => none
section
variable {c : Ct}
theorem r2_I {C : Int → Int → Prop} {Cb : Int → Int → Bool} {g : Int → Int → Int} (h : ∀ i j, Cb i j = true → C i j) : R2D c (rI C fun i j => .int (g i j)) (gI Cb fun i j => .int (g i j)) := fun F ι H M x y dx dy o Q rp rx ry e k => by
  unfold gI at e
  split at e
  · split at e
    · rename_i hc
      cases e
      cases rx.int
      cases ry.int
      exact ⟨_, _, rfl, rfl, h _ _ hc, k.dat rp (.int _)⟩
    · cases e
  · cases e
theorem r2_I0 {g : Int → Int → Int} : R2D c (rI0 fun i j => .int (g i j)) (gI (fun _ _ => true) fun i j => .int (g i j)) := fun F ι H M x y dx dy o Q rp rx ry e k => by
  unfold gI at e
  split at e
  · cases e
    cases rx.int
    cases ry.int
    exact ⟨_, _, rfl, rfl, k.dat rp (.int _)⟩
  · cases e
def oAdd : D → D → Option OR
  | .int i, .int j => some (.dat (.int (i + j)))
  | .str x, .str y => if x.length + y.length ≤ LIM then some (.dat (.str (x ++ y))) else none
  | .tuple xs, .tuple ys => if xs.length + ys.length ≤ LIM then some (.dat (.tuple (xs ++ ys))) else none
  | .list xs, .list ys => if xs.length + ys.length ≤ LIM then some (.new (.list (xs ++ ys))) else none
  | _, _ => none
def rAddAll (c : Ct) : R2 := fun x y H Q => rI0 (fun i j => .int (i + j)) x y H Q ∨ (∃ i j, x = .str i ∧ y = .str j ∧ i.length + j.length ≤ sizeLine ∧ Q (.str (i ++ j)) H) ∨ rCatA c.K x y H Q ∨ rCat x y H Q
theorem op_addAll {X : Cx} : OpR X (binaryOp .Add) (rAddAll (ctx X)) := op_add.or (op_add_str.or (op_catA.or op_cat))
theorem r2_add : R2D c (rAddAll c) oAdd := fun F ι H M x y dx dy o Q rp rx ry e k => by
  unfold oAdd at e
  split at e
  · cases e
    cases rx.int
    cases ry.int
    exact .inl ⟨_, _, rfl, rfl, k.dat rp (.int _)⟩
  · split at e
    · rename_i hl
      cases e
      cases rx.str
      cases ry.str
      exact .inr (.inl ⟨_, _, rfl, rfl, lim_le hl, k.dat rp (.str _)⟩)
    · cases e
  · split at e
    · rename_i ds es hl
      cases e
      obtain ⟨p, xs, rfl, hp, ip, dp⟩ := rx.tup
      obtain ⟨q, ys, rfl, hq, iq, dq⟩ := ry.tup
      refine .inr (.inr (.inl ⟨p, q, xs, ys, rfl, rfl, hp, hq, by rw [ip.length, iq.length]; exact lim_le hl, fun hx => ?_, fun hx hy => ?_, fun hx hy t ht => ?_⟩))
      · subst hx
        cases ip
        exact k.dat rp dq
      · subst hy
        cases iq
        rw [List.append_nil] at k
        exact k.dat rp dp
      · exact k.newT rp (ip.append iq) ht
    · cases e
  · split at e
    · rename_i ds es hl
      cases e
      obtain ⟨p, xs, rfl, hp, ip⟩ := rx.lst
      obtain ⟨q, ys, rfl, hq, iq⟩ := ry.lst
      exact .inr (.inr (.inr ⟨p, q, xs, ys, rfl, rfl, hp, hq, by rw [ip.length, iq.length]; exact lim_le hl, fun t ht => k.newL rp (ip.append iq) ht⟩))
    · cases e
  · cases e
def oSub : D → D → Option OR := gI (fun _ _ => true) fun i j => .int (i - j)
def okMul (i j : Int) : Bool := decide (-(2 ^ 64) < i ∧ i < 2 ^ 64) || decide (-(2 ^ 64) < j ∧ j < 2 ^ 64)
theorem okMul_c {i j : Int} (h : okMul i j = true) : CMul i j := by
  unfold okMul at h
  rw [Bool.or_eq_true, decide_eq_true_eq, decide_eq_true_eq] at h
  exact h
def oMul : D → D → Option OR
  | .int i, .int j => if okMul i j then some (.dat (.int (i * j))) else none
  | .list xs, .int k => if decide (-1000000 ≤ k) && decide (k ≤ 1000000) && decide (xs.length * k.toNat ≤ LIM) then some (.new (.list (List.replicate k.toNat xs).flatten)) else none
  | _, _ => none
def rMulAll (c : Ct) : R2 := fun x y H Q => rI CMul (fun i j => .int (i * j)) x y H Q ∨ rRep x y H Q
theorem op_mulAll {X : Cx} : OpR X (binaryOp .Mult) (rMulAll (ctx X)) := op_mul.or op_rep
theorem r2_mul : R2D c (rMulAll c) oMul := fun F ι H M x y dx dy o Q rp rx ry e k => by
  unfold oMul at e
  split at e
  · split at e
    · rename_i hl
      cases e
      cases rx.int
      cases ry.int
      exact .inl ⟨_, _, rfl, rfl, okMul_c hl, k.dat rp (.int _)⟩
    · cases e
  · split at e
    · rename_i ds n hl
      cases e
      simp only [Bool.and_eq_true, decide_eq_true_eq] at hl
      obtain ⟨p, xs, rfl, hp, ip⟩ := rx.lst
      cases ry.int
      refine .inr ⟨p, _, xs, rfl, rfl, hp, by omega, by omega, by rw [ip.length]; exact lim_le hl.2, fun t ht => k.newL rp (ip.rep _) ht⟩
    · cases e
  · cases e
def oDiv : D → D → Option OR := gI (fun i j => decide (j ≠ 0) && decide (j.natAbs < 1073741824)) fun i j => .int (i.fdiv j)
def oMod : D → D → Option OR := gI (fun i j => decide (j ≠ 0)) fun i j => .int (i.fmod j)
def oPow : D → D → Option OR := gI (fun i j => decide (0 ≤ j) && decide (j ≤ 1000000) && decide (i.natAbs < 2 ^ 64)) fun i j => .int (i ^ j.toNat)
theorem r2_sub : R2D c (rI0 fun i j => .int (i - j)) oSub := r2_I0
theorem r2_div : R2D c (rI CDivN fun i j => .int (i.fdiv j)) oDiv := r2_I fun i j h => by
  rw [Bool.and_eq_true, decide_eq_true_eq, decide_eq_true_eq] at h
  exact h
theorem r2_mod : R2D c (rI (fun _ j => j ≠ 0) fun i j => .int (i.fmod j)) oMod := r2_I fun i j h => of_decide_eq_true h
theorem r2_pow : R2D c (rI CPow fun i j => .int (i ^ j.toNat)) oPow := r2_I fun i j h => by
  simp only [Bool.and_eq_true, decide_eq_true_eq] at h
  exact ⟨h.1.1, h.1.2, h.2⟩
def oNeg : D → Option OR
  | .int i => some (.dat (.int (-i)))
  | _ => none
theorem r1_neg : R1D c (rU fun i => .int (-i)) oNeg := fun F ι H M x dx o Q rp rx e k => by
  unfold oNeg at e
  split at e
  · cases e
    cases rx.int
    exact ⟨_, rfl, k.dat rp (.int _)⟩
  · cases e
end
section
variable {X : Cx} {a b : Expr} {fa fb : DE} {pos : Pos}
theorem pd_add (ha : PD X a fa) (hb : PD X b fb) : PD X (.BinOp a .Add b pos) (dBin oAdd fa fb) := pd_op op_addAll r2_add ha hb
theorem pd_sub (ha : PD X a fa) (hb : PD X b fb) : PD X (.BinOp a .Sub b pos) (dBin oSub fa fb) := pd_op op_sub r2_sub ha hb
theorem pd_mul (ha : PD X a fa) (hb : PD X b fb) : PD X (.BinOp a .Mult b pos) (dBin oMul fa fb) := pd_op op_mulAll r2_mul ha hb
theorem pd_div (ha : PD X a fa) (hb : PD X b fb) : PD X (.BinOp a .FloorDiv b pos) (dBin oDiv fa fb) := pd_op op_fdivN r2_div ha hb
theorem pd_mod (ha : PD X a fa) (hb : PD X b fb) : PD X (.BinOp a .Mod b pos) (dBin oMod fa fb) := pd_op op_modN r2_mod ha hb
theorem pd_pow (ha : PD X a fa) (hb : PD X b fb) : PD X (.BinOp a .Pow b pos) (dBin oPow fa fb) := pd_op op_pow r2_pow ha hb
theorem pd_neg (ha : PD X a fa) : PD X (.UnaryOp .USub a pos) (dUn oNeg fa) := pd_un un_neg r1_neg ha
end

def okCmp (d e : D) : Bool := PySem.W.alike d e && (match d with | .none => false | _ => true) && d.plain && e.plain && decide (d.depth ≤ 60)
def okEq (d e : D) : Bool := d.plain && e.plain && decide (min d.depth e.depth ≤ 60)
def oEq : D → D → Option OR := fun d e => if okEq d e then some (.dat (.bool (PyData.eqv d e))) else none
def oNe : D → D → Option OR := fun d e => if okEq d e then some (.dat (.bool (!PyData.eqv d e))) else none
def oLt : D → D → Option OR := fun d e => if okCmp d e then some (.dat (.bool (PySem.W.dataLt d e))) else none
def oGt : D → D → Option OR := fun d e => if okCmp d e then some (.dat (.bool (PySem.W.dataLt e d))) else none
def oLe : D → D → Option OR := fun d e => if okCmp d e then some (.dat (.bool (!PySem.W.dataLt e d))) else none
def oGe : D → D → Option OR := fun d e => if okCmp d e then some (.dat (.bool (!PySem.W.dataLt d e))) else none
def rCmpD (K : PySem.W.Frag) (ok : D → D → Bool) (g : D → D → Bool) : R2 := fun x y H Q => ∃ d e, Dp K H x d ∧ Dp K H y e ∧ ok d e = true ∧ Q (.bl (g d e)) H
section
variable {X : Cx}
theorem op_cmpD {op : CmpOp} {ok : D → D → Bool} {g : D → D → Bool} (h : ∀ (s : Shared) (v u : Value) (d e : D) (as bs : List Addr) (Q : Value → Shared → Prop), Reads s.heap v d as → Reads s.heap u e bs → ok d e = true → Q (.bool (g d e)) s → wpAny (model X.prog X.w) X.A (compareOp op v u) Q X.xe s) :
    OpR X (compareOp op) (rCmpD X.K ok g) := by
  intro pins s σ H x y v u Q I rx ry q
  obtain ⟨d, e, hd, he, ho, q⟩ := q
  obtain ⟨as, r1⟩ := Dp.reads I d x v hd rx
  obtain ⟨bs, r2⟩ := Dp.reads I e y u he ry
  exact h s v u d e as bs _ r1 r2 ho ⟨.bl _, H, I, rfl, q⟩
theorem okEq_d {A : Around} {d e : D} (hu : A.units + 64 < cLine) (h : okEq d e = true) : d.plain = true ∧ e.plain = true ∧ A.units + min d.depth e.depth < cLine := by
  unfold okEq at h
  simp only [Bool.and_eq_true, decide_eq_true_eq] at h
  exact ⟨h.1.1, h.1.2, by omega⟩
theorem okCmp_d {A : Around} {d e : D} (hu : A.units + 64 < cLine) (h : okCmp d e = true) : PySem.W.alike d e = true ∧ d ≠ .none ∧ d.plain = true ∧ e.plain = true ∧ A.units + min d.depth e.depth < cLine := by
  unfold okCmp at h
  simp only [Bool.and_eq_true, decide_eq_true_eq] at h
  refine ⟨h.1.1.1.1, ?_, h.1.1.2, h.1.2, by omega⟩
  intro z
  rw [z] at h
  simp at h
theorem op_eqA (hu : X.A.units + 64 < cLine) : OpR X (compareOp .Eq) (rCmpD X.K okEq PyData.eqv) := op_cmpD fun s v u d e as bs Q r1 r2 ho q => let ⟨h1, h2, h3⟩ := okEq_d hu ho; SeqAt.eq_plain r1 r2 h1 h2 h3 q
theorem op_neA (hu : X.A.units + 64 < cLine) : OpR X (compareOp .NotEq) (rCmpD X.K okEq fun d e => !PyData.eqv d e) := op_cmpD fun s v u d e as bs Q r1 r2 ho q => let ⟨h1, h2, h3⟩ := okEq_d hu ho; SeqAt.ne_plain r1 r2 h1 h2 h3 q
theorem op_ltA (hu : X.A.units + 64 < cLine) : OpR X (compareOp .Lt) (rCmpD X.K okCmp PySem.W.dataLt) := op_cmpD fun s v u d e as bs Q r1 r2 ho q => let ⟨h1, h2, _, _, h3⟩ := okCmp_d hu ho; PySem.W.lt_data r1 r2 h1 h2 h3 q
theorem op_gtA (hu : X.A.units + 64 < cLine) : OpR X (compareOp .Gt) (rCmpD X.K okCmp fun d e => PySem.W.dataLt e d) := op_cmpD fun s v u d e as bs Q r1 r2 ho q => let ⟨h1, h2, _, _, h3⟩ := okCmp_d hu ho; PySem.W.gt_data r1 r2 h1 h2 h3 q
theorem op_leA (hu : X.A.units + 64 < cLine) : OpR X (compareOp .LtE) (rCmpD X.K okCmp fun d e => !PySem.W.dataLt e d) := op_cmpD fun s v u d e as bs Q r1 r2 ho q => let ⟨h1, h2, _, _, h3⟩ := okCmp_d hu ho; PySem.W.le_data r1 r2 h1 h2 h3 q
theorem op_geA (hu : X.A.units + 64 < cLine) : OpR X (compareOp .GtE) (rCmpD X.K okCmp fun d e => !PySem.W.dataLt d e) := op_cmpD fun s v u d e as bs Q r1 r2 ho q => let ⟨h1, h2, _, _, h3⟩ := okCmp_d hu ho; PySem.W.ge_data r1 r2 h1 h2 h3 q
end
theorem r2_cmpD {c : Ct} {ok : D → D → Bool} {g : D → D → Bool} (h : ∀ d e, ok d e = true → d.plain = true ∧ e.plain = true) : R2D c (rCmpD c.K ok g) (fun d e => if ok d e then some (.dat (.bool (g d e))) else none) := fun F ι H M x y dx dy o Q rp rx ry e k => by
  dsimp only at e
  split at e
  · rename_i hc
    cases e
    obtain ⟨h1, h2⟩ := h _ _ hc
    exact ⟨dx, dy, rx.dp h1, ry.dp h2, hc, k.dat rp (.bl _)⟩
  · cases e
theorem okEq_p : ∀ d e, okEq d e = true → d.plain = true ∧ e.plain = true := fun d e h => by
  unfold okEq at h
  simp only [Bool.and_eq_true, decide_eq_true_eq] at h
  exact ⟨h.1.1, h.1.2⟩
theorem okCmp_p : ∀ d e, okCmp d e = true → d.plain = true ∧ e.plain = true := fun d e h => by
  unfold okCmp at h
  simp only [Bool.and_eq_true, decide_eq_true_eq] at h
  exact ⟨h.1.1.2, h.1.2⟩
/-- an operator's two facts in one -/
structure CmpOk (X : Cx) (op : CmpOp) (g : D → D → Option OR) : Prop where
  ex : ∃ r, OpR X (compareOp op) r ∧ R2D (ctx X) r g
section
variable {X : Cx}
theorem c_eq {k : Nat} (hr : Room k X.A) : CmpOk X .Eq oEq := ⟨_, op_eqA hr.units, r2_cmpD okEq_p⟩
theorem c_ne {k : Nat} (hr : Room k X.A) : CmpOk X .NotEq oNe := ⟨_, op_neA hr.units, r2_cmpD okEq_p⟩
theorem c_lt {k : Nat} (hr : Room k X.A) : CmpOk X .Lt oLt := ⟨_, op_ltA hr.units, r2_cmpD okCmp_p⟩
theorem c_gt {k : Nat} (hr : Room k X.A) : CmpOk X .Gt oGt := ⟨_, op_gtA hr.units, r2_cmpD okCmp_p⟩
theorem c_le {k : Nat} (hr : Room k X.A) : CmpOk X .LtE oLe := ⟨_, op_leA hr.units, r2_cmpD okCmp_p⟩
theorem c_ge {k : Nat} (hr : Room k X.A) : CmpOk X .GtE oGe := ⟨_, op_geA hr.units, r2_cmpD okCmp_p⟩
def oIs : D → D → Option OR
  | .bool a, .bool b => some (.dat (.bool (decide (a = b))))
  | .none, .none => some (.dat (.bool true))
  | .int _, .none => some (.dat (.bool false))
  | .str _, .none => some (.dat (.bool false))
  | .tuple _, .none => some (.dat (.bool false))
  | _, _ => none
def oIsNot : D → D → Option OR
  | .bool a, .bool b => some (.dat (.bool (!decide (a = b))))
  | .none, .none => some (.dat (.bool false))
  | .int _, .none => some (.dat (.bool true))
  | .str _, .none => some (.dat (.bool true))
  | .tuple _, .none => some (.dat (.bool true))
  | _, _ => none
theorem c_is : CmpOk X .Is oIs := ⟨_, op_isBl.or op_isN, fun F ι H M x y dx dy o Q rp rx ry e k => by
  unfold oIs at e
  split at e
  · cases e
    cases rx.bl
    cases ry.bl
    exact .inl ⟨_, _, rfl, rfl, k.dat rp (.bl _)⟩
  · cases e
    cases rx.non
    cases ry.non
    exact .inr ⟨rfl, k.dat rp (.bl true)⟩
  · cases e
    cases rx.int
    cases ry.non
    exact .inr ⟨rfl, k.dat rp (.bl false)⟩
  · cases e
    cases rx.str
    cases ry.non
    exact .inr ⟨rfl, k.dat rp (.bl false)⟩
  · cases e
    obtain ⟨p, xs, rfl, _⟩ := rx.tup
    cases ry.non
    exact .inr ⟨rfl, k.dat rp (.bl false)⟩
  · cases e⟩
theorem c_isnot : CmpOk X .IsNot oIsNot := ⟨_, op_notBl.or op_notN, fun F ι H M x y dx dy o Q rp rx ry e k => by
  unfold oIsNot at e
  split at e
  · cases e
    cases rx.bl
    cases ry.bl
    exact .inl ⟨_, _, rfl, rfl, k.dat rp (.bl _)⟩
  · cases e
    cases rx.non
    cases ry.non
    exact .inr ⟨rfl, k.dat rp (.bl false)⟩
  · cases e
    cases rx.int
    cases ry.non
    exact .inr ⟨rfl, k.dat rp (.bl true)⟩
  · cases e
    cases rx.str
    cases ry.non
    exact .inr ⟨rfl, k.dat rp (.bl true)⟩
  · cases e
    obtain ⟨p, xs, rfl, _⟩ := rx.tup
    cases ry.non
    exact .inr ⟨rfl, k.dat rp (.bl true)⟩
  · cases e⟩
variable {a b d : Expr} {fa fb fd : DE} {pos : Pos}
theorem pd_cm {op : CmpOp} {g : D → D → Option OR} (h : CmpOk X op g) (ha : PD X a fa) (hb : PD X b fb) (hm : behindInMarks op b = false := by first | exact nomark _ | rfl) : PD X (.Compare a [op] [b] pos) (dBin g fa fb) := let ⟨_, h1, h2⟩ := h.ex; pd_cmp h1 h2 ha hb hm
theorem pdt_cm {op : CmpOp} {g : D → D → Option OR} (h : CmpOk X op g) (ha : PD X a fa) (hb : PD X b fb) (hm : behindInMarks op b = false := by first | exact nomark _ | rfl) : PDT X (.Compare a [op] [b] pos) (tVal (dBin g fa fb)) := let ⟨_, h1, h2⟩ := h.ex; pdt_cmp h1 h2 ha hb hm
theorem pd_ch {op op' : CmpOp} {g g' : D → D → Option OR} (h : CmpOk X op g) (h' : CmpOk X op' g') (ha : PD X a fa) (hb : PD X b fb) (hd : PD X d fd)
    (hm : lastMarks [op, op'] [b, d] = false := by with_unfolding_all rfl) : PD X (.Compare a [op, op'] [b, d] pos) (dChain g g' fa fb fd) := let ⟨_, h1, h2⟩ := h.ex; let ⟨_, h3, h4⟩ := h'.ex; pd_chain h1 h2 h3 h4 ha hb hd hm
theorem pdt_ch {op op' : CmpOp} {g g' : D → D → Option OR} (h : CmpOk X op g) (h' : CmpOk X op' g') (ha : PD X a fa) (hb : PD X b fb) (hd : PD X d fd)
    (hm : lastMarks [op, op'] [b, d] = false := by with_unfolding_all rfl) : PDT X (.Compare a [op, op'] [b, d] pos) (tVal (dChain g g' fa fb fd)) := let ⟨_, h1, h2⟩ := h.ex; let ⟨_, h3, h4⟩ := h'.ex; pdt_chain h1 h2 h3 h4 ha hb hd hm
end
end DL
namespace DL
open PySem PySem.Spec PyProof.Rows L2

section
variable {X : Cx} {pins : List (Addr × Obj)} {σ : L2.St} {H : Hp} {s : Shared} {F ι : List Addr}
mutual
theorem nested (I : Inv X pins σ H s) : ∀ (d : D) (v : V) (u : Value), isKey d = true → IsD ((ctx X).at F) ι H v d → RelV v u → NestedIs s.heap (nk d) u
  | .none, _, _, _, h, r => by
    cases h
    cases r
    exact .none
  | .bool _, _, _, k, _, _ => by simp [isKey] at k
  | .int i, _, _, _, h, r => by
    cases h
    obtain ⟨t, rfl⟩ := r
    exact .int i t
  | .str x, _, _, _, h, r => by
    cases h
    obtain ⟨t, rfl⟩ := r
    exact .text x t
  | .tuple ds, _, _, k, h, r => by
    cases h with
    | tup h t =>
      cases r
      have k' : isKeys ds = true := by simpa [isKey] using k
      rw [nk]
      rcases h with ⟨h, _⟩ | ⟨o, its, n, h1, h2, h3, _, h5⟩
      · obtain ⟨_, its, rv, o, e1, e2, n, e3⟩ := (show ObjOk X.prog X.w H s.heap _ (.tup _) from I.hok _ _ h)
        exact .tup e1 e2 e3 (nestedAll I ds _ its k' t rv)
      · exact .tup (I.kIn _ _ h1) h2 h3 (nestedAll I ds _ _ k' t h5)
  | .list _, _, _, k, _, _ => by simp [isKey] at k
  | .dict _, _, _, k, _, _ => by simp [isKey] at k
theorem nestedAll (I : Inv X pins σ H s) : ∀ (ds : List D) (vs : List V) (us : List Value), isKeys ds = true → IsDs ((ctx X).at F) ι H vs ds → Vals vs us → NestedAll s.heap (nks ds) us
  | [], _, _, _, h, r => by
    cases h
    cases r
    exact .nil
  | d :: ds, _, _, k, h, r => by
    rw [isKeys, Bool.and_eq_true] at k
    cases h with
    | cons h t =>
      cases r with
      | cons r rr =>
        rw [nks]
        exact .cons (nested I d _ _ k.1 h r) (nestedAll I ds _ _ k.2 t rr)
end
theorem key_is (I : Inv X pins σ H s) {d : D} {q : Addr} (ok : keyOk d = true) (h : IsD ((ctx X).at F) ι H (.ref q) d) : (nestedKind X.prog X.w).is s.heap (nk d) q := by
  unfold keyOk at ok
  split at ok
  · rename_i ds
    rw [Bool.and_eq_true, decide_eq_true_eq] at ok
    exact ⟨nested I (.tuple ds) _ _ (by rw [isKey]; exact ok.1) h rfl, by rw [nk]; exact ok.2⟩
  · cases ok
theorem key_ref {c : Ct} {d : D} {v : V} (ok : keyOk d = true) (h : IsD c ι H v d) : ∃ q, v = .ref q := by
  unfold keyOk at ok
  split at ok
  · cases h
    exact ⟨_, rfl⟩
  · cases ok
mutual
theorem nk_inj : ∀ (d e : D), isKey d = true → isKey e = true → nk d = nk e → d = e
  | .none, e, _, h2, h => by cases e <;> simp [nk, isKey] at h h2 ⊢
  | .bool _, _, h1, _, _ => by simp [isKey] at h1
  | .int i, e, _, h2, h => by cases e <;> simp [nk, isKey] at h h2 ⊢; exact h
  | .str i, e, _, h2, h => by cases e <;> simp [nk, isKey] at h h2 ⊢; exact h
  | .tuple ds, e, h1, h2, h => by
    cases e with
    | tuple es =>
      rw [nk, nk] at h
      rw [nks_inj ds es (by simpa [isKey] using h1) (by simpa [isKey] using h2) (NestedKey.tup.inj h)]
    | none => simp [nk] at h
    | bool => simp [isKey] at h2
    | int => simp [nk] at h
    | str => simp [nk] at h
    | list => simp [isKey] at h2
    | dict => simp [isKey] at h2
  | .list _, _, h1, _, _ => by simp [isKey] at h1
  | .dict _, _, h1, _, _ => by simp [isKey] at h1
theorem nks_inj : ∀ (ds es : List D), isKeys ds = true → isKeys es = true → nks ds = nks es → ds = es
  | [], [], _, _, _ => rfl
  | [], _ :: _, _, _, h => by simp [nks] at h
  | _ :: _, [], _, _, h => by simp [nks] at h
  | d :: ds, e :: es, h1, h2, h => by
    rw [isKeys, Bool.and_eq_true] at h1 h2
    rw [nks, nks] at h
    injection h with q1 q2
    rw [nk_inj d e h1.1 h2.1 q1, nks_inj ds es h1.2 h2.2 q2]
end

def dLook (kvs : List (D × D)) (k : D) : Option D := (kvs.find? fun p => decide (nk p.1 = nk k)).map (·.2)
def dHas (kvs : List (D × D)) (k : D) : Bool := kvs.any fun p => decide (nk p.1 = nk k)
def dPut (kvs : List (D × D)) (k v : D) : List (D × D) := if dHas kvs k then kvs.map (fun p => if nk p.1 = nk k then (p.1, v) else p) else kvs ++ [(k, v)]
theorem isNs_look {c : Ct} {k : D} : ∀ {xs : List (NestedKey × Addr × Value)} {kvs : List (D × D)}, IsNs c ι H xs kvs →
    (atKey xs (nk k)).isSome = dHas kvs k ∧ (∀ d, dLook kvs k = some d → ∃ q u v, atKey xs (nk k) = some (q, u) ∧ RelV v u ∧ IsD c ι H v d) ∧ (dLook kvs k = none → atKey xs (nk k) = none)
  | _, _, .nil => by
    refine ⟨rfl, fun d h => ?_, fun _ => rfl⟩
    cases h
  | (_, q, u) :: xs, (kd, d) :: kvs, .cons hk ok rv h t => by
    obtain ⟨h1, h2, h3⟩ := isNs_look (k := k) t
    by_cases e : nk kd = nk k
    · refine ⟨?_, fun d' h' => ?_, fun h' => ?_⟩
      · unfold atKey dHas
        simp [e]
      · unfold dLook at h'
        simp [e] at h'
        subst h'
        exact ⟨q, u, _, by unfold atKey; simp [e], rv, h⟩
      · unfold dLook at h'
        simp [e] at h'
    · refine ⟨?_, fun d' h' => ?_, fun h' => ?_⟩
      · unfold atKey dHas at h1 ⊢
        simpa [e] using h1
      · unfold dLook at h' h2
        simp only [List.find?_cons, decide_eq_false e] at h'
        obtain ⟨q', u', v', a1, a2, a3⟩ := h2 d' h'
        refine ⟨q', u', v', ?_, a2, a3⟩
        unfold atKey at a1 ⊢
        simp only [List.find?_cons, decide_eq_false e]
        exact a1
      · unfold dLook at h' h3
        simp only [List.find?_cons, decide_eq_false e] at h'
        have a1 := h3 h'
        unfold atKey at a1 ⊢
        simp only [List.find?_cons, decide_eq_false e]
        exact a1
theorem IsNs.app {c : Ct} : ∀ {xs ys : List (NestedKey × Addr × Value)} {kvs lvs : List (D × D)}, IsNs c ι H xs kvs → IsNs c ι H ys lvs → IsNs c ι H (xs ++ ys) (kvs ++ lvs)
  | _, _, _, _, .nil, s => s
  | _, _, _, _, .cons hk ok rv h t, s => .cons hk ok rv h (IsNs.app t s)
theorem IsNs.map_put {c : Ct} {k d : D} {v : V} {u : Value} (rv : RelV v u) (h : IsD c ι H v d) : ∀ {xs : List (NestedKey × Addr × Value)} {kvs : List (D × D)}, IsNs c ι H xs kvs →
    IsNs c ι H (xs.map (putAt (nk k) u)) (kvs.map fun p => if nk p.1 = nk k then (p.1, d) else p)
  | _, _, .nil => .nil
  | _, _, .cons (kd := kd) hk ok rv' h' t => by
    rw [List.map_cons, List.map_cons]
    unfold putAt
    by_cases e : nk kd = nk k
    · rw [if_pos e, if_pos e]
      exact .cons hk ok rv h (IsNs.map_put rv h t)
    · rw [if_neg e, if_neg e]
      exact .cons hk ok rv' h' (IsNs.map_put rv h t)
theorem IsNs.put {c : Ct} {xs : List (NestedKey × Addr × Value)} {kvs : List (D × D)} {k d : D} {q : Addr} {v : V} {u : Value} (t : IsNs c ι H xs kvs) (hk : IsD c ι H (.ref q) k) (ok : keyOk k = true) (rv : RelV v u) (h : IsD c ι H v d) :
    IsNs c ι H (storedH xs (nk k) q u) (dPut kvs k d) := by
  unfold storedH dPut
  rw [(isNs_look (k := k) t).1]
  split
  · exact t.map_put rv h
  · exact t.app (.cons hk ok rv h .nil)
theorem IsNs.len {c : Ct} : ∀ {xs : List (NestedKey × Addr × Value)} {kvs : List (D × D)}, IsNs c ι H xs kvs → xs.length = kvs.length
  | _, _, .nil => rfl
  | _, _, .cons _ _ _ _ t => by rw [List.length_cons, List.length_cons, IsNs.len t]
theorem IsNs.all {xs : List (NestedKey × Addr × Value)} {kvs : List (D × D)} (I : Inv X pins σ H s) (t : IsNs ((ctx X).at F) ι H xs kvs) : ∀ x ∈ xs, (nestedKind X.prog X.w).is s.heap x.1 x.2.1 := by
  induction xs generalizing kvs with
  | nil => intro x hx; cases hx
  | cons y ys ih =>
    cases t with
    | cons hk ok rv h t =>
      intro x hx
      rcases List.mem_cons.mp hx with e | e
      · subst e
        exact key_is I ok hk
      · exact ih t x e
theorem IsNs.keys {c : Ct} : ∀ {xs : List (NestedKey × Addr × Value)} {kvs : List (D × D)}, IsNs c ι H xs kvs → IsDs c ι H (xs.map fun x => .ref x.2.1) (kvs.map (·.1))
  | _, _, .nil => .nil
  | _, _, .cons hk _ _ _ t => .cons hk (IsNs.keys t)

/-- the dict as the library says it -/
theorem dn_at {a : Addr} {xs : List (NestedKey × Addr × Value)} {kvs : List (D × D)} (I : Inv X pins σ H s) (h : H a = some (.ext (DN ((ctx X).at F) a xs))) (t : IsNs ((ctx X).at F) ι H xs kvs) :
    (a == sysModules) = false ∧ xs.length ≤ sizeLine ∧ s.heap.DictOfH (nestedKind X.prog X.w) a xs := by
  obtain ⟨⟨h1, h2, o, es, ep, h3, h4, h5, h6, h7⟩, _⟩ := (show ObjOk X.prog X.w H s.heap a (.ext (DN ((ctx X).at F) a xs)) from I.hok a _ h)
  exact ⟨h1, h2, o, es, ep, h3, h4, h5, h6, t.all I, h7⟩
theorem dn_obj {c : Ct} {H' : Hp} {h' : Heap} {a : Addr} {xs : List (NestedKey × Addr × Value)} (h1 : (a == sysModules) = false) (h2 : xs.length ≤ sizeLine) (hd : h'.DictOfH (nestedKind c.P c.w) a xs) {P : Program} {w : World} : ObjOk P w H' h' a (.ext (DN c a xs)) := by
  obtain ⟨o, es, ep, h3, h4, h5, h6, _, h7⟩ := hd
  refine ⟨⟨h1, h2, o, es, ep, h3, h4, h5, h6, h7⟩, ⟨o, h3⟩, fun g1 g2 ⟨_, _, o', es', ep', e1, e2⟩ k => ⟨h1, h2, o', es', ep', k _ e1, e2⟩⟩
theorem stored_len (xs : List (NestedKey × Addr × Value)) (k : NestedKey) (q : Addr) (u : Value) : (storedH xs k q u).length ≤ xs.length + 1 := by
  unfold storedH
  split
  · rw [List.length_map]; omega
  · rw [List.length_append]; exact Nat.le_refl _
end

/-- a dict at the address, by its entries -/
structure DnAt (c : Ct) (ι : List Addr) (H : Hp) (a : Addr) (kvs : List (D × D)) : Prop where
  ex : ∃ xs, H a = some (.ext (DN c a xs)) ∧ IsNs c ι H xs kvs
def rIxN (c : Ct) : R2 := fun x y H Q => ∃ F ι a q kd d kvs, x = .ref a ∧ y = .ref q ∧ DnAt (c.at F) ι H a kvs ∧ IsD (c.at F) ι H (.ref q) kd ∧ keyOk kd = true ∧ dLook kvs kd = some d ∧ ∀ v, IsD (c.at F) ι H v d → Q v H
section
variable {X : Cx}
theorem room8 {k : Nat} (hr : Room k X.A) : (nestedKind X.prog X.w).room X.A ∧ (nestedKind X.prog X.w).room X.A.in1 := by
  have h := hr.units
  constructor
  · show X.A.units + 8 < cLine
    omega
  · show X.A.units + 1 + 8 < cLine
    omega
theorem getItem_any {pins : List (Addr × Obj)} {s : Shared} {σ : L2.St} {H : Hp} {a q : Addr} {kd d : D} {kvs : List (D × D)} {F ι : List Addr} {k : Nat} (hr : Room k X.A) (I : Inv X pins σ H s) (h : DnAt ((ctx X).at F) ι H a kvs) (hk : IsD ((ctx X).at F) ι H (.ref q) kd) (ok : keyOk kd = true) (e : dLook kvs kd = some d)
    {Q : Value → Shared → Prop} (hq : ∀ v u s', Inv X pins σ H s' → RelV v u → IsD ((ctx X).at F) ι H v d → Q u s') : ∃ w', s.TypeIs (.ref a) "dict" ∧ wpAny (model X.prog X.w) X.A (getItem (.ref a) (.ref q)) (fun r s' => r = w' ∧ Q r s') X.xe s := by
  obtain ⟨xs, ha, t⟩ := h.ex
  obtain ⟨_, _, hd⟩ := dn_at I ha t
  obtain ⟨b, u, v, e1, rv, hv⟩ := (isNs_look (k := kd) t).2.1 d e
  exact ⟨u, hd.typeIs, wpAny_getItem_heap (room8 hr).2 (key_is I ok hk) hd e1 ⟨rfl, hq v u _ (I.tok _) rv hv⟩⟩
theorem ix_dn {k : Nat} (hr : Room k X.A) : IxR X (rIxN (ctx X)) := by
  intro value slice pins s σ H x y v u Q I rx ry h hs
  obtain ⟨F, ι, a, q, kd, d, kvs, rfl, rfl, hd, hk, ok, e, hq⟩ := h
  cases rx
  cases ry
  obtain ⟨w', ht, hg⟩ := getItem_any (Q := EP X pins σ Q) hr I hd hk ok e fun v u s' I' rv hv => ⟨v, H, I', rv, hq v hv⟩
  exact subscriptTail_builtinR ht PySem.F.slot_dict_getitem.lookup hg hs
/-- k in d, k not in d -/
def rInN (c : Ct) (neg : Bool) : R2 := fun x y H Q => ∃ F ι a q kd kvs, x = .ref q ∧ y = .ref a ∧ DnAt (c.at F) ι H a kvs ∧ IsD (c.at F) ι H (.ref q) kd ∧ keyOk kd = true ∧ Q (.bl (if neg then !dHas kvs kd else dHas kvs kd)) H
theorem op_inN {k : Nat} (hr : Room k X.A) : OpR X (compareOp .In) (rInN (ctx X) false) := by
  intro pins s σ H x y v u Q I rx ry h
  obtain ⟨F, ι, a, q, kd, kvs, rfl, rfl, ⟨xs, ha, t⟩, hk, ok, hq⟩ := h
  cases rx
  cases ry
  obtain ⟨h1, h2, hd⟩ := dn_at I ha t
  refine wpAny_in_heap (room8 hr).2 (key_is I ok hk) h1 hd ?_
  rw [(isNs_look (k := kd) t).1]
  exact ⟨.bl _, H, I.tok _, rfl, hq⟩
theorem op_notInN {k : Nat} (hr : Room k X.A) : OpR X (compareOp .NotIn) (rInN (ctx X) true) := by
  intro pins s σ H x y v u Q I rx ry h
  obtain ⟨F, ι, a, q, kd, kvs, rfl, rfl, ⟨xs, ha, t⟩, hk, ok, hq⟩ := h
  cases rx
  cases ry
  obtain ⟨h1, h2, hd⟩ := dn_at I ha t
  show wpAny _ _ (do return Value.bool (!(← contains (.ref a) (.ref q)))) _ _ s
  refine wpAny_bind (wpAny_contains_heap (room8 hr).2 (key_is I ok hk) h1 hd (wpAny_pure ?_))
  rw [(isNs_look (k := kd) t).1]
  exact ⟨.bl _, H, I.tok _, rfl, hq⟩
/-- d.get(k, x) -/
def rGetN (c : Ct) : V → List V → Hp → VK → Prop := fun x vs H Q => ∃ F ι a q kd y dd kvs, x = .ref a ∧ vs = [.ref q, y] ∧ DnAt (c.at F) ι H a kvs ∧ IsD (c.at F) ι H (.ref q) kd ∧ keyOk kd = true ∧ IsD (c.at F) ι H y dd ∧ ∀ v, IsD (c.at F) ι H v ((dLook kvs kd).getD dd) → Q v H
theorem mt_getN {k : Nat} (hr : Room k X.A) : MtR X "dict.get" (rGetN (ctx X)) := by
  intro pins s σ H x xs v us Q I rx rs h
  obtain ⟨F, ι, a, q, kd, y, dd, kvs, rfl, rfl, ⟨ys, ha, t⟩, hk, ok, hy, hq⟩ := h
  cases rx
  obtain ⟨u1, u2, rfl, r1, r2⟩ := rs.two
  cases r1
  obtain ⟨h1, h2, hd⟩ := dn_at I ha t
  refine call_meetsIn PySem.F.slot_dict_get hd.typeIs PySem.F.entry_dict_get (PySem.F.args_dict_get_3 _ _ _) (meetsH_dict_get_default _ a q h1 u2) ⟨(room8 hr).2, nk kd, ys, key_is I ok hk, hd, ?_⟩
  obtain ⟨_, g2, g3⟩ := isNs_look (k := kd) t
  cases e : dLook kvs kd with
  | none =>
    rw [g3 e]
    rw [e] at hq
    exact ⟨y, H, I.tok _, r2, hq _ hy⟩
  | some d =>
    obtain ⟨b, u, v, e1, rv, hv⟩ := g2 d e
    rw [e1]
    rw [e] at hq
    exact ⟨v, H, I.tok _, rv, hq v hv⟩
/-- d[k] = v -/
def rSetN (c : Ct) : V → V → V → Hp → (Hp → Prop) → Prop := fun o i v H Q => ∃ F ι a q kd d kvs xs, o = .ref a ∧ i = .ref q ∧ H a = some (.ext (DN (c.at F) a xs)) ∧ IsNs (c.at F) ι H xs kvs ∧ IsD (c.at F) ι H (.ref q) kd ∧ keyOk kd = true ∧ kvs.length < sizeLine ∧ IsD (c.at F) ι H v d ∧
  ∀ xs', IsNs (c.at F) ι H xs' (dPut kvs kd d) → Q (upd H a (.ext (DN (c.at F) a xs')))
theorem set_dn {k : Nat} (hr : Room k X.A) : PSet X (rSetN (ctx X)) := by
  intro pins s σ H o i v ov iv u Q I ro ri rv h
  obtain ⟨F, ι, a, q, kd, d, kvs, xs, rfl, rfl, ha, t, hk, ok, hl, hv, hq⟩ := h
  cases ro
  cases ri
  obtain ⟨h1, h2, hd⟩ := dn_at I ha t
  refine wpAny_setItem_heap (hsz := h2) (room8 hr).2 (key_is I ok hk) hd fun h' hd' sb => ?_
  have hz : (storedH xs (nk kd) q u).length ≤ sizeLine := by
    have := stored_len xs (nk kd) q u
    have := t.len
    omega
  obtain ⟨o', _, _, e1, _⟩ := id hd'
  refine ⟨_, I.write (x := a) (e := a) (o := .ext (DN ((ctx X).at F) a (storedH xs (nk kd) q u))) (h' := h') (t' := _) (by rw [ha]; trivial) (.inl rfl) (fun b ob hb e => (sb.2 b hb).trans e) ⟨o', e1⟩ ?_, hq _ (t.put hk ok rv hv)⟩
  exact dn_obj h1 hz hd'
/-- {} to be a dict with tuple keys -/
theorem pe_dnewN {pos : Pos} : PE X (.Dict [] [] pos) (fun _ H Q => ∀ (c : Ct) p, c.P = X.prog → c.w = X.w → H p = none → Q (.ref p) (upd H p (.ext (DN c p [])))) := ⟨fun pins s σ H Q I h =>
  wpAny_Dict_empty (by
    have hb : (s.heap.objs.size == sysModules) = false := beq_eq_false_iff_ne.mpr (Ne.symm (Nat.ne_of_lt I.big))
    refine ⟨.ref s.heap.objs.size, _, I.laid (a := s.heap.objs.size) (o := .ext (DN (ctx X) s.heap.objs.size [])) (t' := s.toks) (fun _ _ q => Heap.get?_push_of_some _ q) (Nat.le_refl _) ?_, rfl, h (ctx X) _ rfl rfl (I.hok.fresh (Nat.le_refl _))⟩
    exact dn_obj (c := ctx X) hb (Nat.zero_le _) (Heap.DictOfH.new s.heap))⟩
end
end DL
namespace DL
open PySem PySem.Spec PyProof.Rows L2

def oIx : D → D → Option OR
  | .list xs, .int i => (atI xs i).map .dat
  | .tuple xs, .int i => (atI xs i).map .dat
  | .str z, .int i => if z.length ≤ LIM then (atI z.cps.toList i).map fun c => .dat (.str ⟨#[c]⟩) else none
  | .dict ((.none, .none) :: kvs), k => if keyOk k then (dLook kvs k).map .dat else none
  | _, _ => none
theorem atI_isD {c : Ct} {ι : List Addr} {H : Hp} {xs : List V} {ds : List D} {i : Int} {d : D} (t : IsDs c ι H xs ds) (e : atI ds i = some d) : ∃ v, atI xs i = some v ∧ IsD c ι H v d := by
  unfold atI at e ⊢
  rw [t.length]
  obtain ⟨j, h1, h2⟩ := Option.bind_eq_some_iff.mp e
  obtain ⟨v, h3, h4⟩ := t.get h2
  exact ⟨v, by rw [h1]; exact h3, h4⟩
theorem Rdb.dn {c : Ct} {ι : List Addr} {H : Hp} {v : V} {kvs : List (D × D)} (h : Rdb c ι H v (.dict ((.none, .none) :: kvs))) : ∃ a, v = .ref a ∧ DnAt c ι H a kvs := by
  generalize e : ((PyData.none, PyData.none) :: kvs) = l at h
  cases h with
  | ofD h =>
    cases h with
    | dN h _ t => cases e; exact ⟨_, rfl, _, h, t⟩
    | dK h _ t =>
      cases t with
      | nil => cases e
      | @cons k v xs d kvs h t =>
        have := congrArg (fun l => l.head?.map Prod.fst) e
        cases k <;> cases this
  | own h =>
    cases h with
    | dN h t => cases e; exact ⟨_, rfl, _, h, t⟩
    | dK h t =>
      cases t with
      | nil => cases e
      | @cons k v xs d kvs h t =>
        have := congrArg (fun l => l.head?.map Prod.fst) e
        cases k <;> cases this
/-- is it a dict of the other kind -/
def isN : List (D × D) → Bool
  | (.none, .none) :: _ => true
  | _ => false
theorem Rdb.dk {c : Ct} {ι : List Addr} {H : Hp} {v : V} {kvs : List (D × D)} (h : Rdb c ι H v (.dict kvs)) (hn : isN kvs = false) : ∃ a xs, v = .ref a ∧ H a = some (.dK xs) ∧ IsKs c ι H xs kvs := by
  cases h with
  | ofD h =>
    cases h with
    | dN h _ t => cases hn
    | dK h _ t => exact ⟨_, _, rfl, h, t⟩
  | own h =>
    cases h with
    | dN h t => cases hn
    | dK h t => exact ⟨_, _, rfl, h, t⟩
theorem isN_cons {kvs : List (D × D)} (h : isN kvs = true) : ∃ r, kvs = (.none, .none) :: r := by
  unfold isN at h
  split at h
  · exact ⟨_, rfl⟩
  · cases h
theorem Rdb.keyD {c : Ct} {ι : List Addr} {H : Hp} {v : V} {d : D} (h : Rdb c ι H v d) (ok : keyOk d = true) : ∃ q, v = .ref q ∧ IsD c ι H (.ref q) d := by
  cases h with
  | ofD h =>
    obtain ⟨q, rfl⟩ := key_ref ok h
    exact ⟨q, rfl, h⟩
  | own h => cases h <;> simp [keyOk] at ok
def rIxAll (c : Ct) : R2 := fun x y H Q => rIx c.K x y H Q ∨ rIxN c x y H Q
section
variable {X : Cx} {a b : Expr} {fa fb : DE} {pos : Pos}
theorem pd_ix {k : Nat} (hr : Room k X.A) (ha : PD X a fa) (hb : PD X b fb) (hs : PlainIx b := by exact fun _ _ => rfl) : PD X (.Subscript a b pos) (dBin oIx fa fb) :=
  PE.weak (pe_ix (IxR.or ix_seq (ix_dn hr)) ha hb hs) fun _ _ _ => rd_bin fun F ι H M x y dx dy o Q rp rx ry e k => by
    unfold oIx at e
    split at e
    · obtain ⟨d, e9, rfl⟩ := Option.map_eq_some_iff.mp e
      obtain ⟨p, xs, rfl, hp, t⟩ := rx.lst
      cases ry.int
      obtain ⟨v, e', hv⟩ := atI_isD t e9
      exact .inl (.inl ⟨p, xs, _, v, rfl, rfl, .of hp, e', k.dat rp hv⟩)
    · obtain ⟨d, e9, rfl⟩ := Option.map_eq_some_iff.mp e
      obtain ⟨p, xs, rfl, hp, t, _⟩ := rx.tup
      cases ry.int
      obtain ⟨v, e', hv⟩ := atI_isD t e9
      exact .inl (.inr (.inl ⟨p, xs, _, v, rfl, rfl, hp, e', k.dat rp hv⟩))
    · split at e
      · rename_i hl
        obtain ⟨d, e9, rfl⟩ := Option.map_eq_some_iff.mp e
        cases rx.str
        cases ry.int
        exact .inl (.inr (.inr ⟨_, _, d, rfl, rfl, lim_le hl, e9, k.dat rp (.str _)⟩))
      · cases e
    · split at e
      · rename_i ok
        obtain ⟨d, e9, rfl⟩ := Option.map_eq_some_iff.mp e
        obtain ⟨q, rfl, hq⟩ := ry.keyD ok
        obtain ⟨a, rfl, ha⟩ := rx.dn
        exact .inr ⟨F, ι, a, q, _, d, _, rfl, rfl, ha, hq, ok, e9, fun v hv => k.dat rp hv⟩
      · cases e
    · cases e
end

def cutL {α : Type} (xs : List α) (lo hi : Option Int) : List α := (xs.drop (HT.sIx xs.length 0 lo)).take (HT.sIx xs.length xs.length hi - HT.sIx xs.length 0 lo)
abbrev DO := Ga → Sto → Option (Option Int × Sto)
def oN : DO := fun _ M => some (none, M)
def oS (fe : DE) : DO := fun Γ M => (fe Γ M).bind fun p => match p.1 with
  | .dat (.int i) => some (some i, p.2)
  | _ => none
def sCut (d : D) (lo hi : Option Int) : Option OR := match d with
  | .list xs => some (.new (.list (cutL xs lo hi)))
  | .tuple xs => some (.dat (.tuple (cutL xs lo hi)))
  | .str z => if z.length ≤ LIM then some (.dat (.str (cutS z lo hi))) else none
  | _ => none
def dSl (fa : DE) (fl fh : DO) : DE := fun Γ M => (fa Γ M).bind fun p => (fl Γ p.2).bind fun l => (fh Γ l.2).bind fun h => (val p.1 h.2).bind fun d => (sCut d l.1 h.1).map fun o => o.out h.2
def rdO (c : Ct) (f : DO) : TO := fun σ H Q => ∃ F ι Γ M o M', Wd (c.at F) ι σ H Γ M ∧ f Γ M = some (o, M') ∧ ∀ ι' H', Ext ι H ι' H' → Rep (c.at F) ι' H' M' → Q o H'
abbrev PDO (X : Cx) (e : Option Expr) (f : DO) : Prop := PO X e (rdO (ctx X) f)
theorem PO.weak {X : Cx} {e : Option Expr} {t t' : TO} (h : PO X e t) (w : ∀ σ H Q, t' σ H Q → t σ H Q) : PO X e t' := ⟨fun pins s σ H Q I q => h.run pins s σ H Q I (w σ H Q q)⟩
section
variable {X : Cx} {a e : Expr} {lo hi : Option Expr} {fa fe : DE} {fl fh : DO} {pos p2 : Pos}
theorem pdo_none : PDO X none oN := PO.weak po_none fun σ H Q ⟨F, ι, Γ, M, o, M', w, e, k⟩ => by
  cases e
  exact k ι H .refl w.rep
theorem pdo_some (h : PD X e fe) : PDO X (some e) (oS fe) := PO.weak (po_some h) fun σ H Q ⟨F, ι, Γ, M, o, M', w, e, k⟩ => by
  obtain ⟨⟨s, M1⟩, e1, e⟩ := Option.bind_eq_some_iff.mp e
  refine ⟨F, ι, Γ, M, s, M1, w, e1, fun v ι1 H1 x1 r1 i1 => ?_⟩
  split at e
  · rename_i heq
    simp only at heq
    subst heq
    cases e
    cases i1 with | dat i1 => cases i1; exact ⟨_, rfl, k ι1 H1 x1 r1⟩
  · cases e
theorem cut_isDs {c : Ct} {ι : List Addr} {H : Hp} {xs : List V} {ds : List D} {lo hi : Option Int} (t : IsDs c ι H xs ds) : IsDs c ι H (cutV xs lo hi) (cutL ds lo hi) := by
  unfold cutV cutL
  rw [t.length]
  exact (t.drop _).take _
theorem cut_whole {α : Type} {xs : List α} {lo hi : Option Int} (h : HT.sIx xs.length 0 lo = 0 ∧ HT.sIx xs.length xs.length hi = xs.length) : cutL xs lo hi = xs := by
  unfold cutL
  rw [h.1, h.2, List.drop_zero, Nat.sub_zero, List.take_length]
theorem pd_sl (ha : PD X a fa) (hl : PDO X lo fl) (hh : PDO X hi fh) : PD X (.Subscript a (.Slice lo hi none p2) pos) (dSl fa fl fh) :=
  PE.weak (pe_slice (SlR.or sl_list (SlR.or sl_tupA sl_str)) ha hl hh) fun σ H Q ⟨F, ι, Γ, M, s, M', w, e, k⟩ => by
    obtain ⟨⟨sa, M1⟩, e1, e⟩ := Option.bind_eq_some_iff.mp e
    obtain ⟨⟨l, M2⟩, e2, e⟩ := Option.bind_eq_some_iff.mp e
    obtain ⟨⟨h, M3⟩, e3, e⟩ := Option.bind_eq_some_iff.mp e
    obtain ⟨d, e4, e⟩ := Option.bind_eq_some_iff.mp e
    obtain ⟨o, e5, e⟩ := Option.map_eq_some_iff.mp e
    refine ⟨F, ι, Γ, M, sa, M1, w, e1, fun v ι1 H1 x1 r1 i1 => ?_⟩
    have w1 := w.next x1 r1
    refine ⟨F, ι1, Γ, M1, l, M2, w1, e2, fun ι2 H2 x2 r2 => ?_⟩
    refine ⟨F, ι2, Γ, M2, h, M3, w1.next x2 r2, e3, fun ι3 H3 x3 r3 => ?_⟩
    have R := rdb_of r3 ((i1.mono x2).mono x3) e4
    have K : AftO ((ctx X).at F) ι3 H3 M3 o Q := fun v4 ι4 H4 x4 r4 i4 => by
      simp only [e] at r4 i4
      exact k v4 ι4 H4 (x1.trans (x2.trans (x3.trans x4))) r4 i4
    unfold sCut at e5
    split at e5
    · cases e5
      obtain ⟨p, xs, rfl, hp, t⟩ := R.lst
      exact .inl ⟨p, xs, rfl, .of hp, fun q hq => K.newL r3 (cut_isDs t) hq⟩
    · cases e5
      obtain ⟨p, xs, rfl, hp, t, id⟩ := R.tup
      refine .inr (.inl ⟨p, xs, rfl, hp, fun hw => ?_, fun _ q hq => K.newT r3 (cut_isDs t) hq⟩)
      rw [t.length] at hw
      rw [cut_whole hw] at K
      exact K.dat r3 id
    · split at e5
      · rename_i hz
        cases e5
        cases R.str
        exact .inr (.inr ⟨_, rfl, lim_le hz, K.dat r3 (.str _)⟩)
      · cases e5
    · cases e5
end

section
variable {prog : Program} {w : World} {A : Around} {E : Value → Shared → Prop} {s : Shared}
theorem adjust_rev (n : Nat) : Builtin.Slice.sliceAdjust none none (-1) (n : Int) = ((n : Int) - 1, -1) := by
  unfold Builtin.Slice.sliceAdjust
  have h1 : ((-1 : Int) < 0) := by decide
  simp only [h1, if_true]
theorem places_rev (n : Nat) : Builtin.Slice.slicePlaces ((n : Int) - 1) (-1) (-1) = n := by
  unfold Builtin.Slice.slicePlaces
  have h1 : ¬ ((-1 : Int) > 0) := by decide
  simp only [h1, if_false]
  cases n with
  | zero => rfl
  | succ m =>
    rw [if_pos (by omega), show (-(-1) : Int) = 1 from rfl, Int.ediv_one]
    omega
theorem pick_rev (xs : Array Value) : ((List.range xs.size).filterMap fun (m : Nat) => xs[(((xs.size : Int) - 1) + (m : Int) * (-1)).toNat]?).toArray = xs.toList.reverse.toArray := by
  congr 1
  have h : ∀ l : List Nat, (∀ m ∈ l, m < xs.size) → (l.filterMap fun (m : Nat) => xs[(((xs.size : Int) - 1) + (m : Int) * (-1)).toNat]?) = l.map fun m => xs.toList.getD (xs.size - 1 - m) .none := by
    intro l
    induction l with
    | nil => intro _; rfl
    | cons m l ih =>
      intro hl
      have hm : m < xs.size := hl m List.mem_cons_self
      have e : (((xs.size : Int) - 1) + (m : Int) * (-1)).toNat = xs.size - 1 - m := by omega
      rw [List.filterMap_cons, e, Array.getElem?_eq_getElem (by omega), ih fun k hk => hl k (List.mem_cons_of_mem _ hk)]
      simp only [List.map_cons]
      congr 1
      rw [List.getD_eq_getElem?_getD, Array.getElem?_toList, Array.getElem?_eq_getElem (by omega)]
      rfl
  rw [h _ fun m hm => List.mem_range.mp hm]
  apply List.ext_getElem
  · simp
  · intro i h1 h2
    simp only [List.length_map, List.length_range] at h1
    simp only [List.getElem_map, List.getElem_range, List.getElem_reverse, List.getD_eq_getElem?_getD, Array.getElem?_toList]
    rw [Array.getElem?_eq_getElem (by omega)]
    simp
theorem getItem_tuple_rev {t sl : Addr} {items : Array Value} {vl vu vs : Value} {Q : Value → Shared → Prop} (ht : IsTup s.heap t items) (hs : s.heap.IsSliceOf sl vl vu vs) (pl : IsPart vl none) (pu : IsPart vu none) (ps : IsPart vs (some (-1)))
    (h : Q (.ref s.heap.objs.size) { s with heap := s.heap.push { cls := .type "tuple", data := .seq items.toList.reverse.toArray } })
    (hsz : items.size ≤ sizeLine) : wpAny (model prog w) A (getItem (.ref t) (.ref sl)) Q E s := by
  have htake : sizeOk (.seq items.toList.reverse.toArray) := by
    show items.toList.reverse.toArray.size ≤ sizeLine
    rw [List.size_toArray, List.length_reverse, Array.length_toList]
    exact hsz
  obtain ⟨os, hos, hcs, hds⟩ := id hs
  have hTs : s.TypeIs (.ref sl) "slice" := ⟨os, hos, hcs⟩
  unfold getItem
  try with_reducible refine wpAny_holding ?_
  first | refine wpAny_bind (wpAny_pure ?_) | skip
  refine wpAny_bind (wpAny_sequenceKey ht.typeIs (by decide) ?_)
  refine wpAny_bind (wpAny_callSpecial?_slot (name := Str.ofString "__getitem__") ht.typeIs PyProof.Rows.slot_tuple_getitem
    (wpAny_call_entry PyProof.Rows.slot_tuple_getitem ht.typeIs entry_tuple_getitem ?_ (args_tuple_getitem _ _)))
  show wpAny _ _ (Builtin.Tuple.tupleItemsOf (.ref t) >>= _) _ _ s
  refine wpAny_bind (tupleItemsOf_ ht ?_)
  refine wpAny_bind (wpAny_typeOf hTs ?_)
  rw [if_pos (by decide)]
  have hap : ∀ {Q : Int × Int × Nat → Shared → Prop} {E : Value → Shared → Prop} {A : Around}, Q ((items.size : Int) - 1, -1, items.size) s → wpAny (model prog w) A (Builtin.Slice.sliceApplied (.ref sl) (pure (items.size : Int))) Q E s := by
    intro Q E A h
    unfold Builtin.Slice.sliceApplied Builtin.Slice.sliceFields
    refine wpAny_bind (wpAny_bind (wpAny_field hos hds (x := vl) rfl (wpAny_bind (wpAny_field hos hds (x := vu) rfl (wpAny_bind (wpAny_field hos hds (x := vs) rfl (wpAny_pure ?_)))))))
    refine wpAny_bind (HT.slicePart_ ps ?_)
    show wpAny _ _ (if ((-1 : Int) == 0) = true then _ else _) _ _ s
    rw [if_neg (by decide)]
    refine wpAny_bind (HT.slicePart_ pl (wpAny_bind (HT.slicePart_ pu (wpAny_bind (wpAny_pure ?_)))))
    show wpAny _ _ (match Builtin.Slice.sliceAdjust none none (-1) (items.size : Int) with | (lo, hi) => pure (lo, (-1 : Int), Builtin.Slice.slicePlaces lo hi (-1))) _ _ s
    rw [adjust_rev]
    show wpAny _ _ (pure ((items.size : Int) - 1, (-1 : Int), Builtin.Slice.slicePlaces ((items.size : Int) - 1) (-1) (-1))) _ _ s
    rw [places_rev]
    exact wpAny_pure h
  refine wpAny_bind (hap ?_)
  have hno : ¬ ((((items.size : Int) - 1) == 0 && (-1 : Int) == 1 && items.size == items.size) = true) := by
    intro q
    rw [Bool.and_eq_true, Bool.and_eq_true] at q
    exact absurd q.1.2 (by decide)
  show wpAny _ _ (if (((items.size : Int) - 1) == 0 && (-1 : Int) == 1 && items.size == items.size) = true then _ else _) _ _ s
  rw [if_neg hno, pick_rev]
  first
    | exact wpAny_bind (m := Builtin.Tuple.tupleExact _) (wpAny_newObj_type (wpAny_pure ⟨_, rfl, wpAny_pure h⟩) htake)
    | exact wpAny_bind (m := Builtin.Tuple.tupleExact _) (wpAny_newObj_type (wpAny_bind (wpAny_pure (wpAny_pure ⟨_, rfl, wpAny_pure h⟩))) htake)
    | exact wpAny_bind (wpAny_bind (m := Builtin.Tuple.tupleExact _) (wpAny_newObj_type (wpAny_pure (wpAny_pure ⟨_, rfl, wpAny_pure h⟩)) htake))
    | exact wpAny_bind (wpAny_bind (m := Builtin.Tuple.tupleExact _) (wpAny_newObj_type (wpAny_pure ⟨_, rfl, wpAny_pure h⟩) htake))
end
def oRev : D → Option OR
  | .tuple xs => some (.dat (.tuple xs.reverse))
  | .list xs => some (.new (.list xs.reverse))
  | _ => none
section
variable {X : Cx}
def tRevA (K : PySem.W.Frag) (te : TE) : TE := fun σ H Q => te σ H fun x H1 => ∃ a xs, x = .ref a ∧ ((SqT K H1 a xs ∧ ∀ p, H1 p = none → Q (.ref p) (upd H1 p (.tup xs.reverse))) ∨ (SqL K H1 a xs ∧ ∀ p, H1 p = none → Q (.ref p) (upd H1 p (.lst xs.reverse))))
theorem pe_revA {e : Expr} {te : TE} {k : Nat} {p1 p2 p3 pos : Pos} (he : PE X e te) : PE X (.Subscript e (.Slice none none (some (.UnaryOp .USub (.Constant (.int 1) k p1) p2)) p3) pos) (tRevA X.K te) := by
  refine ⟨fun pins s σ H Q I h => ?_⟩
  refine Subscript_ (thn (he.run pins s σ H _ I h) fun v s1 ⟨x, H1, I1, r1, q1⟩ => ?_)
  obtain ⟨a, xs, ex, hx⟩ := q1
  subst ex
  cases r1
  have hst : PO X (some (.UnaryOp .USub (.Constant (.int 1) k p1) p2)) (tPart (tUn (rU fun i => .int (-i)) (tC (.int 1)))) := po_some (pe_un un_neg pe_int)
  refine wpAny_Slice (thn (po_none.run pins s1 σ H1 (fun o H2 => o = none ∧ H2 = H1) I1 ⟨rfl, rfl⟩) fun vl s2 ⟨l, H2, I2, pl, el, e2⟩ => ?_)
  subst el e2
  refine thn (po_none.run pins s2 σ H2 (fun o H3 => o = none ∧ H3 = H2) I2 ⟨rfl, rfl⟩) fun vu s3 ⟨u, H3, I3, pu, eu, e3⟩ => ?_
  subst eu e3
  refine thn (hst.run pins s3 σ H3 (fun o H4 => o = some (-1) ∧ H4 = H3) I3 ⟨1, rfl, -1, rfl, rfl, rfl⟩) fun vs s4 ⟨o, H4, I4, ps, eo, e4⟩ => ?_
  subst eo e4
  have I5 : Inv X pins σ H4 { s4 with heap := s4.heap.push { cls := .type "slice", data := .fields #[vl, vu, vs] } } := I4.kept (t' := s4.toks) fun b ob q => Heap.get?_push_of_some _ q
  show wpAny (model X.prog X.w) X.A (subscriptTail e (.Slice none none (some (.UnaryOp .USub (.Constant (.int 1) k p1) p2)) p3) (.ref a) (.ref s4.heap.objs.size)) (EP X pins σ Q) X.xe { s4 with heap := s4.heap.push { cls := .type "slice", data := .fields #[vl, vu, vs] } }
  rcases hx with ⟨hx, q⟩ | ⟨hx, q⟩
  · obtain ⟨its, r, ht, hz⟩ := I5.tuple hx
    refine tail_any (ops := [.ref a, .ref s4.heap.objs.size]) ht.typeIs PyProof.Rows.slot_tuple_getitem.lookup ?_ (by with_unfolding_all rfl)
    refine getItem_tuple_rev ht (Heap.IsSliceOf.new _ vl vu vs) pl pu ps ?_ (by rw [List.size_toArray, ← r.length]; exact hz)
    refine ⟨.ref _, _, I5.laid (t' := s4.toks) (o := .tup xs.reverse) (fun b ob q => Heap.get?_push_of_some _ q) (Nat.le_refl _) ?_, rfl, q _ (I5.hok.fresh (Nat.le_refl _))⟩
    exact ⟨by rw [List.length_reverse]; exact hz, _, r.reverse, IsTup.new _ _⟩
  · obtain ⟨its, r, ht, hz⟩ := I5.list hx
    have hlen := r.length
    refine tail_any (ops := [.ref a, .ref s4.heap.objs.size]) ht.isList.typeIs (PySem.slot_list_getitem.lookup) ?_ (by with_unfolding_all rfl)
    refine wpAny_getItem_list_slice ht.isList (Heap.IsSliceOf.new _ vl vu vs) pl pu ps (by decide) ?_ (by rw [List.size_toArray]; omega)
    rw [PySem.W.krv_pick]
    refine ⟨.ref _, _, I5.laid (t' := s4.toks) (o := .lst xs.reverse) (fun b ob q => Heap.get?_push_of_some _ q) (Nat.le_refl _) ?_, rfl, q _ (I5.hok.fresh (Nat.le_refl _))⟩
    exact ⟨by rw [List.length_reverse]; exact hz, _, _, r.reverse, Heap.get?_push_size _ rfl⟩
theorem pd_rev {e : Expr} {fe : DE} {k : Nat} {p1 p2 p3 pos : Pos} (he : PD X e fe) : PD X (.Subscript e (.Slice none none (some (.UnaryOp .USub (.Constant (.int 1) k p1) p2)) p3) pos) (dUn oRev fe) :=
  PE.weak (pe_revA he) fun σ H Q ⟨F, ι, Γ, M, s, M', w, e, k⟩ => by
    obtain ⟨⟨sa, M1⟩, e1, e⟩ := Option.bind_eq_some_iff.mp e
    obtain ⟨da, e3, e⟩ := Option.bind_eq_some_iff.mp e
    obtain ⟨o, e5, e⟩ := Option.map_eq_some_iff.mp e
    refine ⟨F, ι, Γ, M, sa, M1, w, e1, fun v ι1 H1 x1 r1 i1 => ?_⟩
    have R := rdb_of r1 i1 e3
    have K : AftO ((ctx X).at F) ι1 H1 M1 o Q := fun v4 ι4 H4 x4 r4 i4 => by
      simp only [e] at r4 i4
      exact k v4 ι4 H4 (x1.trans x4) r4 i4
    unfold oRev at e5
    split at e5
    · cases e5
      obtain ⟨p, xs, rfl, hp, t, _⟩ := R.tup
      exact ⟨p, xs, rfl, .inl ⟨hp, fun q hq => K.newT r1 t.reverse hq⟩⟩
    · cases e5
      obtain ⟨p, xs, rfl, hp, t⟩ := R.lst
      exact ⟨p, xs, rfl, .inr ⟨.of hp, fun q hq => K.newL r1 t.reverse hq⟩⟩
    · cases e5
end

theorem Rdbs.one {c : Ct} {ι : List Addr} {H : Hp} {vs : List V} {d : D} (h : Rdbs c ι H vs [d]) : ∃ v, vs = [v] ∧ Rdb c ι H v d := by
  cases h with
  | cons h t => cases t; exact ⟨_, rfl, h⟩
theorem Rdbs.two {c : Ct} {ι : List Addr} {H : Hp} {vs : List V} {d e : D} (h : Rdbs c ι H vs [d, e]) : ∃ v u, vs = [v, u] ∧ Rdb c ι H v d ∧ Rdb c ι H u e := by
  cases h with
  | cons h t =>
    cases t with
    | cons h' t => cases t; exact ⟨_, _, rfl, h, h'⟩
def bLen : List D → Option OR
  | [.str z] => if z.length ≤ LIM then some (.dat (.int z.length)) else none
  | [.list xs] => some (.dat (.int xs.length))
  | [.tuple xs] => some (.dat (.int xs.length))
  | [.dict kvs] => some (.dat (.int (if isN kvs then kvs.length - 1 else kvs.length : Nat)))
  | _ => none
def rLenN (c : Ct) : List V → Hp → VK → Prop := fun xs H Q => ∃ F ι a kvs, xs = [.ref a] ∧ DnAt (c.at F) ι H a kvs ∧ Q (.int kvs.length) H
def rLenK : List V → Hp → VK → Prop := fun xs H Q => ∃ a kvs, xs = [.ref a] ∧ H a = some (.dK kvs) ∧ Q (.int kvs.length) H
def bAbs : List D → Option OR
  | [.int i] => some (.dat (.int (if i < 0 then -i else i)))
  | _ => none
def bInt : List D → Option OR
  | [.int i] => some (.dat (.int i))
  | [.bool b] => some (.dat (.int (if b then 1 else 0)))
  | _ => none
def bMin : List D → Option OR
  | [.int i, .int j] => some (.dat (.int (if j < i then j else i)))
  | _ => none
def bMax : List D → Option OR
  | [.int i, .int j] => some (.dat (.int (if j > i then j else i)))
  | _ => none
def intsD : List D → Option (List Int)
  | [] => some []
  | .int i :: r => (intsD r).map (i :: ·)
  | _ :: _ => none
def blsD : List D → Option (List Bool)
  | [] => some []
  | .bool i :: r => (blsD r).map (i :: ·)
  | _ :: _ => none
theorem intsD_eq : ∀ {ds : List D} {ns : List Int}, intsD ds = some ns → ds = ns.map .int
  | [], ns, e => by cases e; rfl
  | .int i :: r, ns, e => by
    obtain ⟨ms, e1, rfl⟩ := Option.map_eq_some_iff.mp e
    rw [intsD_eq e1]; rfl
  | .none :: _, _, e => by cases e
  | .bool _ :: _, _, e => by cases e
  | .str _ :: _, _, e => by cases e
  | .list _ :: _, _, e => by cases e
  | .tuple _ :: _, _, e => by cases e
  | .dict _ :: _, _, e => by cases e
theorem blsD_eq : ∀ {ds : List D} {ns : List Bool}, blsD ds = some ns → ds = ns.map .bool
  | [], ns, e => by cases e; rfl
  | .bool i :: r, ns, e => by
    obtain ⟨ms, e1, rfl⟩ := Option.map_eq_some_iff.mp e
    rw [blsD_eq e1]; rfl
  | .none :: _, _, e => by cases e
  | .int _ :: _, _, e => by cases e
  | .str _ :: _, _, e => by cases e
  | .list _ :: _, _, e => by cases e
  | .tuple _ :: _, _, e => by cases e
  | .dict _ :: _, _, e => by cases e
theorem intsD_map (ns : List Int) : intsD (ns.map .int) = some ns := by
  induction ns with
  | nil => rfl
  | cons n ns ih => rw [List.map_cons, intsD, ih]; rfl
theorem blsD_map (ns : List Bool) : blsD (ns.map .bool) = some ns := by
  induction ns with
  | nil => rfl
  | cons n ns ih => rw [List.map_cons, blsD, ih]; rfl
def bSum : List D → Option OR
  | [.list ds] => (intsD ds).map fun ns => .dat (.int ns.sum)
  | _ => none
def bAll : List D → Option OR
  | [.list ds] => (blsD ds).map fun ns => .dat (.bool (ns.all id))
  | _ => none
def bAny : List D → Option OR
  | [.list ds] => (blsD ds).map fun ns => .dat (.bool (ns.any id))
  | _ => none
def bTuple : List D → Option OR
  | [.list ds] => some (.dat (.tuple ds))
  | [.tuple ds] => some (.dat (.tuple ds))
  | _ => none
def bList : List D → Option OR
  | [.list ds] => some (.new (.list ds))
  | [.tuple ds] => some (.new (.list ds))
  | _ => none
section
variable {X : Cx} {a e e2 : Expr} {es : List Expr} {fr : DA} {p pos : Pos}
theorem call_lenN : CallR X (.builtin "len") (rLenN (ctx X)) := by
  intro pins s σ H xs us Q I r h
  obtain ⟨F, ι, a, kvs, rfl, ⟨ys, ha, t⟩, q⟩ := h
  obtain ⟨u, rfl, rx⟩ := vals1 r
  cases rx
  obtain ⟨h1, h2, hd⟩ := dn_at I ha t
  have hl := t.len
  refine call_len_dictH h1 hd (by rw [sizeLine_eq] at h2; omega) ?_
  rw [hl]
  exact ⟨.int _, H, I.tok _, ⟨_, rfl⟩, q⟩
theorem call_lenK : CallR X (.builtin "len") rLenK := by
  intro pins s σ H xs us Q I r h
  obtain ⟨a, kvs, rfl, ha, q⟩ := h
  exact call_lenD pins s σ H _ us Q I r ⟨a, kvs, rfl, ha, q⟩
theorem IsKs.len {c : Ct} {ι : List Addr} {H : Hp} : ∀ {xs : List (Key × V)} {kvs : List (D × D)}, IsKs c ι H xs kvs → xs.length = kvs.length
  | _, _, .nil => rfl
  | _, _, .cons _ t => by rw [List.length_cons, List.length_cons, IsKs.len t]
theorem pd_len (hg : Gl X "len") (hm : X.mg "len" = none) (ha : PDA X [e] fr) (he : starEach [e] X.env = (false, eval e X.env) :: starEach [] X.env := by rfl) : PD X (.Call (.Name "len" p) [e] [] pos) (dCB bLen fr) :=
  pd_cb (id := "len") (r := fun xs H Q => _ ∨ _ ∨ _) (fun F ι H M xs ds o Q rp R e k => by
    unfold bLen at e
    split at e
    · split at e
      · rename_i hz
        cases e
        obtain ⟨v, rfl, R0⟩ := R.one
        cases R0.str
        exact .inl ⟨_, _, rfl, ⟨lim_le hz, rfl⟩, k.dat rp (.int _)⟩
      · cases e
    · cases e
      obtain ⟨v, rfl, R0⟩ := R.one
      obtain ⟨p, xs, rfl, hp, t⟩ := R0.lst
      exact .inl ⟨_, _, rfl, .inl ⟨xs, .of hp, t.length.symm⟩, k.dat rp (.int _)⟩
    · cases e
      obtain ⟨v, rfl, R0⟩ := R.one
      obtain ⟨p, xs, rfl, hp, t, _⟩ := R0.tup
      exact .inl ⟨_, _, rfl, .inr ⟨xs, hp, t.length.symm⟩, k.dat rp (.int _)⟩
    · cases e
      obtain ⟨v, rfl, R0⟩ := R.one
      cases hn : isN _ with
      | true =>
        rw [hn] at k
        obtain ⟨r, rfl⟩ := isN_cons hn
        obtain ⟨a, rfl, ha⟩ := R0.dn
        exact .inr (.inl ⟨F, ι, a, _, rfl, ha, k.dat rp (.int _)⟩)
      | false =>
        rw [hn] at k
        obtain ⟨a, xs, rfl, ha, t⟩ := R0.dk hn
        refine .inr (.inr ⟨a, xs, rfl, ha, ?_⟩)
        rw [t.len]
        exact k.dat rp (.int _)
    · cases e) (CallR.or call_len (CallR.or call_lenN call_lenK)) hg hm boot_len ha (he := he) (hpl := rfl)
theorem pd_abs (hg : Gl X "abs") (hm : X.mg "abs" = none) (ha : PDA X [e] fr) (he : starEach [e] X.env = (false, eval e X.env) :: starEach [] X.env := by rfl) : PD X (.Call (.Name "abs" p) [e] [] pos) (dCB bAbs fr) :=
  pd_cb (id := "abs") (fun F ι H M xs ds o Q rp R e k => by
    unfold bAbs at e
    split at e
    · cases e
      obtain ⟨v, rfl, R0⟩ := R.one
      cases R0.int
      exact ⟨_, rfl, k.dat rp (.int _)⟩
    · cases e) call_abs hg hm (by decide +kernel) ha (he := he) (hpl := rfl)
theorem pd_int1 (hg : Gl X "int") (hm : X.mg "int" = none) (ha : PDA X [e] fr) (he : starEach [e] X.env = (false, eval e X.env) :: starEach [] X.env := by rfl) : PD X (.Call (.Name "int" p) [e] [] pos) (dCB bInt fr) :=
  pd_cty (T := "int") (fun F ι H M xs ds o Q rp R e k => by
    unfold bInt at e
    split at e
    · cases e
      obtain ⟨v, rfl, R0⟩ := R.one
      cases R0.int
      exact .inl ⟨_, rfl, k.dat rp (.int _)⟩
    · cases e
      obtain ⟨v, rfl, R0⟩ := R.one
      cases R0.bl
      exact .inr ⟨_, rfl, k.dat rp (.int _)⟩
    · cases e) call_int1 hg hm (by decide +kernel) ha (he := he) (hpl := rfl)
theorem pd_min2 (hc : X.calm = true) (hg : Gl X "min") (hm : X.mg "min" = none) (ha : PDA X [e, e2] fr) (he : starEach [e, e2] X.env = (false, eval e X.env) :: starEach [e2] X.env := by rfl) (hpl : (backTo pos (starEach [e2] X.env)).any (·.1) = false := by rfl) : PD X (.Call (.Name "min" p) [e, e2] [] pos) (dCB bMin fr) :=
  pd_cb (id := "min") (fun F ι H M xs ds o Q rp R e k => by
    unfold bMin at e
    split at e
    · cases e
      obtain ⟨v, u, rfl, R1, R2⟩ := R.two
      cases R1.int
      cases R2.int
      exact ⟨_, _, rfl, k.dat rp (.int _)⟩
    · cases e) (call_min2 hc) hg hm (by decide +kernel) ha (he := he) (hpl := hpl)
theorem pd_max2 (hc : X.calm = true) (hg : Gl X "max") (hm : X.mg "max" = none) (ha : PDA X [e, e2] fr) (he : starEach [e, e2] X.env = (false, eval e X.env) :: starEach [e2] X.env := by rfl) (hpl : (backTo pos (starEach [e2] X.env)).any (·.1) = false := by rfl) : PD X (.Call (.Name "max" p) [e, e2] [] pos) (dCB bMax fr) :=
  pd_cb (id := "max") (fun F ι H M xs ds o Q rp R e k => by
    unfold bMax at e
    split at e
    · cases e
      obtain ⟨v, u, rfl, R1, R2⟩ := R.two
      cases R1.int
      cases R2.int
      exact ⟨_, _, rfl, k.dat rp (.int _)⟩
    · cases e) (call_max2 hc) hg hm (by decide +kernel) ha (he := he) (hpl := hpl)
theorem pd_sum (hc : X.calm = true) (hg : Gl X "sum") (hm : X.mg "sum" = none) (ha : PDA X [e] fr) (he : starEach [e] X.env = (false, eval e X.env) :: starEach [] X.env := by rfl) : PD X (.Call (.Name "sum" p) [e] [] pos) (dCB bSum fr) :=
  pd_cb (id := "sum") (fun F ι H M xs ds o Q rp R e k => by
    unfold bSum at e
    split at e
    · obtain ⟨ns, e1, rfl⟩ := Option.map_eq_some_iff.mp e
      obtain ⟨v, rfl, R0⟩ := R.one
      obtain ⟨p, xs, rfl, hp, t⟩ := R0.lst
      rw [intsD_eq e1] at t
      rw [t.ints] at hp
      exact ⟨p, ns, rfl, .of hp, k.dat rp (.int _)⟩
    · cases e) (cr_sum hc) hg hm (by decide +kernel) ha (he := he) (hpl := rfl)
theorem pd_all (hc : X.calm = true) (hg : Gl X "all") (hm : X.mg "all" = none) (ha : PDA X [e] fr) (he : starEach [e] X.env = (false, eval e X.env) :: starEach [] X.env := by rfl) : PD X (.Call (.Name "all" p) [e] [] pos) (dCB bAll fr) :=
  pd_cb (id := "all") (fun F ι H M xs ds o Q rp R e k => by
    unfold bAll at e
    split at e
    · obtain ⟨ns, e1, rfl⟩ := Option.map_eq_some_iff.mp e
      obtain ⟨v, rfl, R0⟩ := R.one
      obtain ⟨p, xs, rfl, hp, t⟩ := R0.lst
      rw [blsD_eq e1] at t
      rw [t.bls] at hp
      exact ⟨p, ns, rfl, .of hp, k.dat rp (.bl _)⟩
    · cases e) (cr_all hc) hg hm (by decide +kernel) ha (he := he) (hpl := rfl)
theorem pd_any (hc : X.calm = true) (hg : Gl X "any") (hm : X.mg "any" = none) (ha : PDA X [e] fr) (he : starEach [e] X.env = (false, eval e X.env) :: starEach [] X.env := by rfl) : PD X (.Call (.Name "any" p) [e] [] pos) (dCB bAny fr) :=
  pd_cb (id := "any") (fun F ι H M xs ds o Q rp R e k => by
    unfold bAny at e
    split at e
    · obtain ⟨ns, e1, rfl⟩ := Option.map_eq_some_iff.mp e
      obtain ⟨v, rfl, R0⟩ := R.one
      obtain ⟨p, xs, rfl, hp, t⟩ := R0.lst
      rw [blsD_eq e1] at t
      rw [t.bls] at hp
      exact ⟨p, ns, rfl, .of hp, k.dat rp (.bl _)⟩
    · cases e) (cr_any hc) hg hm (by decide +kernel) ha (he := he) (hpl := rfl)
theorem pd_tupleOf (hg : Gl X "tuple") (hm : X.mg "tuple" = none) (ha : PDA X [e] fr) (he : starEach [e] X.env = (false, eval e X.env) :: starEach [] X.env := by rfl) : PD X (.Call (.Name "tuple" p) [e] [] pos) (dCB bTuple fr) :=
  pd_cty (T := "tuple") (fun F ι H M xs ds o Q rp R e k => by
    unfold bTuple at e
    split at e
    · cases e
      obtain ⟨v, rfl, R0⟩ := R.one
      obtain ⟨p, xs, rfl, hp, t⟩ := R0.lst
      exact ⟨p, xs, rfl, .inl ⟨.of hp, fun l hl => k.newT rp t hl⟩⟩
    · cases e
      obtain ⟨v, rfl, R0⟩ := R.one
      obtain ⟨p, xs, rfl, hp, t, i⟩ := R0.tup
      exact ⟨p, xs, rfl, .inr ⟨hp, k.dat rp i⟩⟩
    · cases e) call_tuple_of hg hm boot_tuple ha (he := he) (hpl := rfl)
theorem pd_listOf (hg : Gl X "list") (hm : X.mg "list" = none) (ha : PDA X [e] fr) (he : starEach [e] X.env = (false, eval e X.env) :: starEach [] X.env := by rfl) : PD X (.Call (.Name "list" p) [e] [] pos) (dCB bList fr) :=
  pd_cty (T := "list") (fun F ι H M xs ds o Q rp R e k => by
    unfold bList at e
    split at e
    · cases e
      obtain ⟨v, rfl, R0⟩ := R.one
      obtain ⟨p, xs, rfl, hp, t⟩ := R0.lst
      exact ⟨p, xs, rfl, .inl (.of hp), fun l hl => k.newL rp t hl⟩
    · cases e
      obtain ⟨v, rfl, R0⟩ := R.one
      obtain ⟨p, xs, rfl, hp, t, i⟩ := R0.tup
      exact ⟨p, xs, rfl, .inr hp, fun l hl => k.newL rp t hl⟩
    · cases e) call_list_of hg hm boot_list ha (he := he) (hpl := rfl)
/-- list(range(n)) -/
def rgD (a b : Int) : List D := (List.range (b - a).toNat).map fun i => PyData.int (a + (i : Nat))
theorem rg_isDs {c : Ct} {ι : List Addr} {H : Hp} (a b : Int) : IsDs c ι H (rgV a b) (rgD a b) := by
  have h := isDs_ints (c := c) (ι := ι) (H := H) ((List.range (b - a).toNat).map fun i => a + (i : Nat))
  rw [List.map_map, List.map_map] at h
  exact h
def oLstRg1 (fa : DE) : DE := fun Γ M => (fa Γ M).bind fun p => match p.1 with
  | .dat (.int n) => if -1000000 ≤ n ∧ n ≤ 1000000 then some ((OR.new (.list (rgD 0 n))).out p.2) else none
  | _ => none
theorem pd_lstRg1 {fa : DE} {p2 pos2 : Pos} (hc : X.calm = true) (hg : Gl X "list") (hm : X.mg "list" = none) (hg' : Gl X "range") (hm' : X.mg "range" = none) (ha : PD X a fa) (na : starEach [a] X.env = (false, eval a X.env) :: starEach [] X.env := by rfl)
    (nb : starEach [.Call (.Name "range" p2) [a] [] pos2] X.env = (false, eval (.Call (.Name "range" p2) [a] [] pos2) X.env) :: starEach [] X.env := by rfl) : PD X (.Call (.Name "list" p) [.Call (.Name "range" p2) [a] [] pos2] [] pos) (oLstRg1 fa) :=
  PE.weak (pe_listRg hc hg hm (prg_1 hg' hm' ha na) nb) fun σ H Q ⟨F, ι, Γ, M, s, M', w, e, k⟩ => by
    obtain ⟨⟨sa, M1⟩, e1, e⟩ := Option.bind_eq_some_iff.mp e
    refine ⟨F, ι, Γ, M, sa, M1, w, e1, fun v ι1 H1 x1 r1 i1 => ?_⟩
    simp only at e
    split at e
    · rename_i n
      split at e
      case isFalse => cases e
      rename_i hn
      replace e := Option.some.inj e
      cases i1 with
      | dat i1 =>
        cases i1
        refine ⟨_, rfl, ?_, fun q hq => ?_⟩
        · exact ⟨by omega, by omega, by omega, by omega, by omega⟩
        · have K : AftO ((ctx X).at F) ι1 H1 M1 (.new (.list (rgD 0 n))) Q := fun v4 ι4 H4 x4 r4 i4 => by
            simp only [e] at r4 i4
            exact k v4 ι4 H4 (x1.trans x4) r4 i4
          exact K.newL r1 (rg_isDs 0 n) hq
    · cases e
end
end DL
namespace DL
open PySem PySem.Spec PyProof.Rows L2

inductive Fl where
  | nx
  | rt (s : SV)
  | bk
  | ct
abbrev DS := Ga → Sto → Option (Fl × Ga × Sto)
def Out (c : Ct) (ι : List Addr) (σ : L2.St) (H : Hp) (E : Ends) : Fl → Prop
  | .nx => E.nx σ H
  | .bk => E.bk σ H
  | .ct => E.ct σ H
  | .rt s => ∀ v, IsS c ι H v s → E.rt v H
def rdS (c : Ct) (f : DS) : TS := fun E σ H => ∃ F ι Γ M fl Γ' M', Wd (c.at F) ι σ H Γ M ∧ f Γ M = some (fl, Γ', M') ∧
  ∀ ι' σ' H', Ext ι H ι' H' → Wd (c.at F) ι' σ' H' Γ' M' → Out (c.at F) ι' σ' H' E fl
abbrev PDS (X : Cx) (st : Stmt) (f : DS) : Prop := PS X st (rdS (ctx X) f)
abbrev PDSs (X : Cx) (st : List Stmt) (f : DS) : Prop := PSs X st (rdS (ctx X) f)

def sNil : DS := fun Γ M => some (.nx, Γ, M)
def sSeq (f g : DS) : DS := fun Γ M => (f Γ M).bind fun r => match r.1 with
  | .nx => g r.2.1 r.2.2
  | fl => some (fl, r.2.1, r.2.2)
def sAsg (i : Nat) (fe : DE) : DS := fun Γ M => (fe Γ M).bind fun p => some (.nx, Γ.set i (some p.1), p.2)
def sRet (fe : DE) : DS := fun Γ M => (fe Γ M).bind fun p => some (.rt p.1, Γ, p.2)
def sRetN : DS := fun Γ M => some (.rt (.dat .none), Γ, M)
def sExpr (fe : DE) : DS := fun Γ M => (fe Γ M).bind fun p => some (.nx, Γ, p.2)
def sIf (ft : DT) (f g : DS) : DS := fun Γ M => (ft Γ M).bind fun p => if p.1 = true then f Γ p.2 else g Γ p.2
def sBk : DS := fun Γ M => some (.bk, Γ, M)
def sCt : DS := fun Γ M => some (.ct, Γ, M)

theorem Wd.set {c : Ct} {ι : List Addr} {σ : L2.St} {H : Hp} {Γ : Ga} {M : Sto} (w : Wd c ι σ H Γ M) {v : V} {s : SV} (h : IsS c ι H v s) (i : Nat) : Wd c ι (σ.set i (some v)) H (Γ.set i (some s)) M := by
  refine ⟨w.rep, by rw [List.length_set, List.length_set]; exact w.len, fun j t e => ?_⟩
  by_cases hj : j = i
  · subst hj
    have hl : j < Γ.length := by
      have := (List.getElem?_eq_some_iff.mp e).1
      rwa [List.length_set] at this
    rw [List.getElem?_set_self hl] at e
    have e' := Option.some.inj (Option.some.inj e)
    subst e'
    exact ⟨v, List.getElem?_set_self (by rw [w.len]; exact hl), h⟩
  · rw [List.getElem?_set_ne (Ne.symm hj)] at e
    obtain ⟨u, h1, h2⟩ := w.at_ j t e
    exact ⟨u, by rw [List.getElem?_set_ne (Ne.symm hj)]; exact h1, h2⟩

section
variable {X : Cx} {st : Stmt} {rest a b : List Stmt} {f g : DS} {e : Expr} {fe : DE} {ft : DT} {pos : Pos}
theorem pds_nil : PDSs X [] sNil := PSs.weak pss_nil fun E σ H ⟨F, ι, Γ, M, fl, Γ', M', w, e, k⟩ => by
  cases e
  exact k ι σ H .refl w
theorem pds_cons (h1 : PDS X st f) (h2 : PDSs X rest g) : PDSs X (st :: rest) (sSeq f g) :=
  PSs.weak (pss_cons h1 h2) fun E σ H ⟨F, ι, Γ, M, fl, Γ', M', w, e, k⟩ => by
    obtain ⟨⟨f1, Γ1, M1⟩, e1, e⟩ := Option.bind_eq_some_iff.mp e
    refine ⟨F, ι, Γ, M, f1, Γ1, M1, w, e1, fun ι1 σ1 H1 x1 w1 => ?_⟩
    cases f1 with
    | nx => exact ⟨F, ι1, Γ1, M1, fl, Γ', M', w1, e, fun ι2 σ2 H2 x2 w2 => k ι2 σ2 H2 (x1.trans x2) w2⟩
    | rt s => cases e; exact k ι1 σ1 H1 x1 w1
    | bk => cases e; exact k ι1 σ1 H1 x1 w1
    | ct => cases e; exact k ι1 σ1 H1 x1 w1
theorem pds_one (h1 : PDS X st f) : PDSs X [st] f := pss_one h1
theorem rd_asg {i : Nat} {σ : L2.St} {H : Hp} {E : Ends} (q : rdS (ctx X) (sAsg i fe) E σ H) : tAsg (rdE (ctx X) fe) (gName i) E σ H := by
  obtain ⟨F, ι, Γ, M, fl, Γ', M', w, e, k⟩ := q
  obtain ⟨⟨s, M1⟩, e1, e⟩ := Option.bind_eq_some_iff.mp e
  cases e
  exact ⟨F, ι, Γ, M, s, M1, w, e1, fun v ι1 H1 x1 r1 i1 => k ι1 _ H1 x1 ((w.next x1 r1).set i1 i)⟩
theorem ps_asgD {i : Nat} {t : TE} {x : Str} {pos' : Pos} (h : PS X (.Assign [.Name x pos'] e pos) (tAsg t (gName i))) (w : ∀ σ H Q, rdE (ctx X) fe σ H Q → t σ H Q) : PDS X (.Assign [.Name x pos'] e pos) (sAsg i fe) :=
  PS.weak h fun E σ H q => w _ _ _ (rd_asg q)
theorem pds_set (i : Nat) {x : Str} {pos' : Pos} (he : PD X e fe) (hN : X.N.Nodup) (hi : X.N[i]? = some x := by rfl) (hx : Loc X.env.scope x := by first | exact .inl rfl | exact .inr rfl) (hs : swapsWith e (some (.Name x pos')) pos.line X.env = pure false := by rfl) (hf : X.fn x = true ∨ X.env.scope.names.lookup x = some .local := by first | exact .inl rfl | exact .inr rfl | assumption) :
    PDS X (.Assign [.Name x pos'] e pos) (sAsg i fe) := ps_asgD (ps_set hN hi hx he hs hf) fun _ _ _ q => q
theorem pds_ret (he : PD X e fe) : PDS X (.Return (some e) pos) (sRet fe) := PS.weak (ps_ret he) fun E σ H ⟨F, ι, Γ, M, fl, Γ', M', w, e, k⟩ => by
  obtain ⟨⟨s, M1⟩, e1, e⟩ := Option.bind_eq_some_iff.mp e
  cases e
  exact ⟨F, ι, Γ, M, s, M1, w, e1, fun v ι1 H1 x1 r1 i1 => k ι1 σ H1 x1 (w.next x1 r1) v i1⟩
theorem pds_retN : PDS X (.Return none pos) sRetN := PS.weak ps_retN fun E σ H ⟨F, ι, Γ, M, fl, Γ', M', w, e, k⟩ => by
  cases e
  exact k ι σ H .refl w _ (.dat .non)
theorem pds_expr (he : PD X e fe) (hs : swapsWith e none pos.line X.env = pure false := by rfl) : PDS X (.Expr e pos) (sExpr fe) := PS.weak (ps_expr he hs) fun E σ H ⟨F, ι, Γ, M, fl, Γ', M', w, e, k⟩ => by
  obtain ⟨⟨s, M1⟩, e1, e⟩ := Option.bind_eq_some_iff.mp e
  cases e
  exact ⟨F, ι, Γ, M, s, M1, w, e1, fun v ι1 H1 x1 r1 i1 => k ι1 σ H1 x1 (w.next x1 r1)⟩
theorem pds_if {c : Expr} (hc : PDT X c ft) (ha : PDSs X a f) (hb : PDSs X b g) : PDS X (.If c a b pos) (sIf ft f g) := PS.weak (ps_if hc ha hb) fun E σ H ⟨F, ι, Γ, M, fl, Γ', M', w, e, k⟩ => by
  obtain ⟨⟨t, M1⟩, e1, e⟩ := Option.bind_eq_some_iff.mp e
  refine ⟨F, ι, Γ, M, t, M1, w, e1, fun ι1 H1 x1 r1 => ?_⟩
  cases t with
  | true =>
    rw [if_pos rfl] at e
    exact iteT ⟨F, ι1, Γ, M1, fl, Γ', M', w.next x1 r1, e, fun ι2 σ2 H2 x2 w2 => k ι2 σ2 H2 (x1.trans x2) w2⟩
  | false =>
    rw [if_neg Bool.false_ne_true] at e
    exact iteF ⟨F, ι1, Γ, M1, fl, Γ', M', w.next x1 r1, e, fun ι2 σ2 H2 x2 w2 => k ι2 σ2 H2 (x1.trans x2) w2⟩
theorem pds_pass : PDS X (.Pass pos) sNil := PS.weak ps_pass fun E σ H ⟨F, ι, Γ, M, fl, Γ', M', w, e, k⟩ => by
  cases e
  exact k ι σ H .refl w
theorem pds_break : PDS X (.Break pos) sBk := PS.weak ps_break fun E σ H ⟨F, ι, Γ, M, fl, Γ', M', w, e, k⟩ => by
  cases e
  exact k ι σ H .refl w
theorem pds_continue : PDS X (.Continue pos) sCt := PS.weak ps_continue fun E σ H ⟨F, ι, Γ, M, fl, Γ', M', w, e, k⟩ => by
  cases e
  exact k ι σ H .refl w
end

abbrev DG := D → Ga → Option Ga
def gNm (i : Nat) : DG := fun d Γ => some (Γ.set i (some (.dat d)))
def gEach : List DG → List D → Ga → Option Ga
  | [], [], Γ => some Γ
  | g :: gs, d :: ds, Γ => (g d Γ).bind fun Γ1 => gEach gs ds Γ1
  | _, _, _ => none
def gTp (gs : List DG) : DG := fun d Γ => match d with
  | .tuple ds => gEach gs ds Γ
  | _ => none
/-- σ' differs from σ at the slots ts alone -/
def AtMost (ts : List Nat) (σ σ' : L2.St) : Prop := σ'.length = σ.length ∧ ∀ k, k ∉ ts → σ'[k]? = σ[k]?
theorem AtMost.refl {ts : List Nat} {σ : L2.St} : AtMost ts σ σ := ⟨rfl, fun _ _ => rfl⟩
theorem AtMost.trans {ts : List Nat} {σ σ1 σ2 : L2.St} (a : AtMost ts σ σ1) (b : AtMost ts σ1 σ2) : AtMost ts σ σ2 := ⟨b.1.trans a.1, fun k h => (b.2 k h).trans (a.2 k h)⟩
theorem AtMost.mono {ts us : List Nat} {σ σ1 : L2.St} (a : AtMost ts σ σ1) (h : ∀ k ∈ ts, k ∈ us) : AtMost us σ σ1 := ⟨a.1, fun k hk => a.2 k fun q => hk (h k q)⟩
theorem wipe_at {σ : L2.St} : ∀ {vs : List Nat} {k : Nat}, (wipe σ vs)[k]? = if k ∈ vs then (σ[k]?).map fun _ => none else σ[k]?
  | [], k => by simp [wipe]
  | v :: vs, k => by
    unfold wipe
    by_cases hk : k = v
    · subst hk
      rw [if_pos List.mem_cons_self]
      by_cases hl : k < σ.length
      · rw [List.getElem?_set_self (by rw [wipe_length]; exact hl), List.getElem?_eq_getElem hl]; rfl
      · rw [List.getElem?_eq_none (by rw [List.length_set, wipe_length]; omega), List.getElem?_eq_none (by omega)]; rfl
    · rw [List.getElem?_set_ne (Ne.symm hk), wipe_at (vs := vs)]
      simp only [List.mem_cons, hk, false_or]
theorem AtMost.wipe {vs : List Nat} {σ σ2 : L2.St} (a : AtMost vs σ σ2) : L2.wipe σ2 vs = L2.wipe σ vs := by
  apply List.ext_getElem?
  intro k
  rw [wipe_at, wipe_at]
  by_cases hk : k ∈ vs
  · rw [if_pos hk, if_pos hk]
    by_cases hl : k < σ.length
    · rw [List.getElem?_eq_getElem hl, List.getElem?_eq_getElem (by rw [a.1]; exact hl)]; rfl
    · rw [List.getElem?_eq_none (show σ2.length ≤ k by rw [a.1]; omega), List.getElem?_eq_none (show σ.length ≤ k by omega)]
  · rw [if_neg hk, if_neg hk]
    exact a.2 k hk
def rdG (c : Ct) (ts : List Nat) (g : DG) : TG := fun v σ H Q => ∃ F ι Γ M d Γ', Wd (c.at F) ι σ H Γ M ∧ IsD (c.at F) ι H v d ∧ g d Γ = some Γ' ∧ ∀ σ', AtMost ts σ σ' → Wd (c.at F) ι σ' H Γ' M → Q σ' H
def rdGs (c : Ct) (ts : List Nat) (gs : List DG) : TGs := fun vs σ H Q => ∃ F ι Γ M ds Γ', Wd (c.at F) ι σ H Γ M ∧ IsDs (c.at F) ι H vs ds ∧ gEach gs ds Γ = some Γ' ∧ ∀ σ', AtMost ts σ σ' → Wd (c.at F) ι σ' H Γ' M → Q σ' H
abbrev PDG (X : Cx) (tg : Expr) (ts : List Nat) (g : DG) : Prop := PG X tg (rdG (ctx X) ts g)
abbrev PDGs (X : Cx) (tg : List Expr) (ts : List Nat) (g : List DG) : Prop := PGs X tg (rdGs (ctx X) ts g)
theorem PG.weak {X : Cx} {e : Expr} {t t' : TG} (h : PG X e t) (w : ∀ v σ H Q, t' v σ H Q → t v σ H Q) : PG X e t' := ⟨fun pins s σ H v u Q I r q => h.run pins s σ H v u Q I r (w v σ H Q q)⟩
theorem PGs.weak {X : Cx} {e : List Expr} {t t' : TGs} (h : PGs X e t) (w : ∀ v σ H Q, t' v σ H Q → t v σ H Q) : PGs X e t' := ⟨fun pins s σ H v u Q I r q => h.run pins s σ H v u Q I r (w v σ H Q q)⟩
section
variable {X : Cx} {pos : Pos} {e : Expr} {es : List Expr} {ts : List Nat} {g : DG} {gs : List DG}
theorem at_set (i : Nat) (v : Option V) (σ : L2.St) {ts : List Nat} (h : i ∈ ts) : AtMost ts σ (σ.set i v) := ⟨List.length_set .., fun k hk => List.getElem?_set_ne fun q : i = k => hk (by rw [← q]; exact h)⟩
theorem pdg_name (i : Nat) {x : Str} (hN : X.N.Nodup) (hi : X.N[i]? = some x := by rfl) (hx : Loc X.env.scope x := by first | exact .inl rfl | exact .inr rfl) (hf : X.fn x = true ∨ X.env.scope.names.lookup x = some .local := by first | exact .inl rfl | exact .inr rfl | assumption) (ht : i ∈ ts := by decide) : PDG X (.Name x pos) ts (gNm i) :=
  PG.weak (pg_name hN hi hx hf) fun v σ H Q ⟨F, ι, Γ, M, d, Γ', w, hd, e, k⟩ => by
    cases e
    exact k _ (at_set i _ σ ht) (w.set (.dat hd) i)
theorem pdgs_nil : PDGs X [] ts [] := PGs.weak pgs_nil fun v σ H Q ⟨F, ι, Γ, M, d, Γ', w, hd, e, k⟩ => by
  cases hd with
  | nil =>
    cases e
    exact ⟨rfl, k σ .refl w⟩
  | cons => cases e
theorem pdgs_cons (h1 : PDG X e ts g) (h2 : PDGs X es ts gs) (hs : (assignEach (e :: es) X.env).map (·.2) = assign e X.env :: (assignEach es X.env).map (·.2) := by rfl) : PDGs X (e :: es) ts (g :: gs) :=
  PGs.weak (pgs_cons h1 h2 hs) fun v σ H Q ⟨F, ι, Γ, M, d, Γ', w, hd, e, k⟩ => by
    cases hd with
    | nil => cases e
    | cons h t =>
      obtain ⟨Γ1, e1, e⟩ := Option.bind_eq_some_iff.mp e
      exact ⟨_, _, rfl, F, ι, Γ, M, _, Γ1, w, h, e1, fun σ1 a1 w1 => ⟨F, ι, Γ1, M, _, Γ', w1, t, e, fun σ2 a2 w2 => k σ2 (a1.trans a2) w2⟩⟩
theorem gEach_len : ∀ {gs : List DG} {ds : List D} {Γ Γ' : Ga}, gEach gs ds Γ = some Γ' → ds.length = gs.length
  | [], [], _, _, _ => rfl
  | g :: gs, d :: ds, Γ, Γ', e => by
    obtain ⟨Γ1, _, e⟩ := Option.bind_eq_some_iff.mp e
    rw [List.length_cons, List.length_cons, gEach_len e]
  | [], _ :: _, _, _, e => by cases e
  | _ :: _, [], _, _, e => by cases e
theorem pdg_tup {k : Nat} (hc : X.calm = true) (h : PDGs X es ts gs) (hn : (assignEach es X.env).length = gs.length := by rfl) (hst : (assignEach es X.env).findIdx? (·.1) = none := by rfl) : PDG X (.Tuple es k pos) ts (gTp gs) :=
  PG.weak (pg_tup hc h hn hst) fun v σ H Q ⟨F, ι, Γ, M, d, Γ', w, hd, e, k⟩ => by
    unfold gTp at e
    split at e
    · obtain ⟨a, xs, rfl, hp, t, _⟩ := (Rdb.ofD hd).tup
      exact ⟨a, xs, rfl, hp, by rw [t.length]; exact gEach_len e, F, ι, Γ, M, _, Γ', w, t, e, k⟩
    · cases e
end
/-- a, b = e -/
def sTup (fe : DE) (g : DG) : DS := fun Γ M => (fe Γ M).bind fun p => match p.1 with
  | .dat d => (g d Γ).map fun Γ' => (.nx, Γ', p.2)
  | _ => none
theorem pds_tup {X : Cx} {tg e : Expr} {fe : DE} {ts : List Nat} {g : DG} {pos : Pos} (he : PD X e fe) (hg : PDG X tg ts g) (hs : swapsWithSole [tg] e pos.line X.env = pure false := by rfl) (hw : swappedStores [tg] e X.env = pure none := by rfl)
    (h1 : (assignEach [tg] X.env).map (·.2) = [assign tg X.env] := by rfl) : PDS X (.Assign [tg] e pos) (sTup fe g) :=
  PS.weak (ps_asg he hg hs hw h1) fun E σ H ⟨F, ι, Γ, M, fl, Γ', M', w, e, k⟩ => by
    obtain ⟨⟨s, M1⟩, e1, e⟩ := Option.bind_eq_some_iff.mp e
    refine ⟨F, ι, Γ, M, s, M1, w, e1, fun v ι1 H1 x1 r1 i1 => ?_⟩
    split at e
    · rename_i d heq
      simp only at heq
      subst heq
      obtain ⟨Γ1, e2, e⟩ := Option.map_eq_some_iff.mp e
      cases e
      cases i1 with
      | dat i1 => exact ⟨F, ι1, Γ, M1, d, Γ', w.next x1 r1, i1, e2, fun σ' a w' => k ι1 σ' H1 x1 w'⟩
    · cases e

abbrev DIt := Sto → Nat → Option (Option D)
abbrev DI := Ga → Sto → Option ((DIt × Nat) × Sto)
def JOk (c : Ct) (ι0 : List Addr) (H0 : Hp) (J : It) (it : DIt) : Prop := ∀ ι H M i, Ext ι0 H0 ι H → Rep c ι H M → (it M i = some none → J.stop i H) ∧
  ∀ d, it M i = some (some d) → J.go i H ∧ ∀ x H', J.yld i H x H' → Ext ι H ι H' ∧ Rep c ι H' M ∧ IsD c ι H' x d
def rdI (c : Ct) (f : DI) : TI := fun σ H R => ∃ F ι Γ M it M', Wd (c.at F) ι σ H Γ M ∧ f Γ M = some (it, M') ∧ ∀ J ι' H', Ext ι H ι' H' → Rep (c.at F) ι' H' M' → JOk (c.at F) ι' H' J it.1 → R J H'
abbrev PDI (X : Cx) (tg e : Expr) (f : DI) : Prop := PI X tg e (rdI (ctx X) f)
theorem PI.weak {X : Cx} {tg e : Expr} {t t' : TI} (h : PI X tg e t) (w : ∀ σ H Q, t' σ H Q → t σ H Q) : PI X tg e t' := ⟨fun pins s σ H Q I q => h.run pins s σ H Q I (w σ H Q q)⟩
def itD (ds : List D) : DIt := fun _ i => some ds[i]?
def itP (n : Nat) : DIt := fun M i => match M[n]? with
  | some (.list ds) => some ds[i]?
  | _ => none
def iSeq (fe : DE) : DI := fun Γ M => (fe Γ M).bind fun p => match p.1 with
  | .dat (.list ds) => some ((itD ds, ds.length), p.2)
  | .dat (.tuple ds) => some ((itD ds, ds.length), p.2)
  | .ptr n => match p.2[n]? with
    | some (.list ds) => some ((itP n, ds.length), p.2)
    | _ => none
  | _ => none
section
variable {X : Cx} {tg : Expr}
theorem pi_seqA {l : Expr} {tl : TE} (hl : PE X l tl) : PI X tg l (fun σ H R => tl σ H fun x H1 => ∃ a, x = .ref a ∧ (((∃ xs, SqL X.K H1 a xs) ∧ R (Itl X.K a) H1) ∨ ((∃ xs, SqT X.K H1 a xs) ∧ R (Itt X.K a) H1))) := by
  refine ⟨fun pins s σ H R I h => ?_⟩
  refine thn (hl.run pins s σ H _ I h) fun v s1 ⟨x, H1, I1, r1, q1⟩ => ?_
  obtain ⟨a, e, q⟩ := q1
  subst e
  cases r1
  rcases q with ⟨⟨xs, hq⟩, q⟩ | ⟨⟨xs, hq⟩, q⟩
  · obtain ⟨its, rv, p, hz⟩ := I1.list hq
    refine wpAny_pyIter_list p.isList ?_
    refine ⟨s1.heap.objs.size, [s1.heap.objs.size], _, _, H1, rfl, I1.kept (t' := s1.toks) fun b o e => Heap.get?_push_of_some _ e, turn_list a _, ⟨_, Heap.get?_push_size _ rfl, rfl, rfl⟩, fun b hb => ?_, q⟩
    have e : b = s1.heap.objs.size := by simpa using hb
    subst e
    exact I1.fpOk (Nat.le_refl _) (I1.hok.fresh (Nat.le_refl _))
  · obtain ⟨its, rv, p, hz⟩ := I1.tuple hq
    refine wpAny_pyIter_tuple (show s1.heap.IsTuple a its.toArray from p) ?_
    refine ⟨s1.heap.objs.size, [s1.heap.objs.size], _, _, H1, rfl, I1.kept (t' := s1.toks) fun b o e => Heap.get?_push_of_some _ e, turn_tuple a _, ⟨_, Heap.get?_push_size _ rfl, rfl, rfl⟩, fun b hb => ?_, q⟩
    have e : b = s1.heap.objs.size := by simpa using hb
    subst e
    exact I1.fpOk (Nat.le_refl _) (I1.hok.fresh (Nat.le_refl _))
theorem isDs_at {c : Ct} {ι : List Addr} {H : Hp} {xs : List V} {ds : List D} {i : Nat} (t : IsDs c ι H xs ds) : (ds[i]? = none → xs.length ≤ i) ∧ ∀ d, ds[i]? = some d → ∃ v, xs[i]? = some v ∧ IsD c ι H v d :=
  ⟨fun e => by rw [t.length]; exact List.getElem?_eq_none_iff.mp e, fun d e => t.get e⟩
theorem jok_lst {c : Ct} {ι0 : List Addr} {H0 : Hp} {a : Addr} {ds : List D} (h : IsD c ι0 H0 (.ref a) (.list ds)) : JOk c ι0 H0 (Itl c.K a) (itD ds) := fun ι H M i x r => by
  have h' := h.mono x
  cases h' with
  | @lst _ xs _ hp _ t =>
    obtain ⟨t1, t2⟩ := isDs_at (i := i) t
    refine ⟨fun e => ⟨xs, .of hp, t1 (Option.some.inj e)⟩, fun d e => ?_⟩
    obtain ⟨v, e1, hv⟩ := t2 d (Option.some.inj e)
    refine ⟨⟨xs, v, .of hp, e1⟩, fun y H' ⟨q1, q2⟩ => ?_⟩
    subst q1
    have := q2 xs (.of hp)
    rw [e1] at this
    cases this
    exact ⟨.refl, r, hv⟩
theorem jok_tup {c : Ct} {ι0 : List Addr} {H0 : Hp} {a : Addr} {ds : List D} (h : IsD c ι0 H0 (.ref a) (.tuple ds)) : JOk c ι0 H0 (Itt c.K a) (itD ds) := fun ι H M i x r => by
  have h' := h.mono x
  cases h' with
  | @tup _ xs _ hp t =>
    have hp' := sqT_of hp
    obtain ⟨t1, t2⟩ := isDs_at (i := i) t
    refine ⟨fun e => ⟨xs, hp', t1 (Option.some.inj e)⟩, fun d e => ?_⟩
    obtain ⟨v, e1, hv⟩ := t2 d (Option.some.inj e)
    refine ⟨⟨xs, v, hp', e1⟩, fun y H' ⟨q1, q2⟩ => ?_⟩
    subst q1
    have := q2 xs hp'
    rw [e1] at this
    cases this
    exact ⟨.refl, r, hv⟩
theorem jok_ptr {c : Ct} {ι0 : List Addr} {H0 : Hp} {a : Addr} {n : Nat} (h : ι0[n]? = some a) : JOk c ι0 H0 (Itl c.K a) (itP n) := fun ι H M i x r => by
  have h' := x.at h
  have key : ∀ o, itP n M i = some o → ∃ ds xs, M[n]? = some (.list ds) ∧ H a = some (.lst xs) ∧ IsDs c ι H xs ds ∧ ds[i]? = o := fun o e => by
    unfold itP at e
    split at e
    · rename_i ds hm
      have ow := r.at_ n a _ h' hm
      cases ow with
      | lst hp t => exact ⟨ds, _, hm, hp, t, Option.some.inj e⟩
    · cases e
  refine ⟨fun e => ?_, fun d e => ?_⟩
  · obtain ⟨ds, xs, _, hp, t, e1⟩ := key _ e
    exact ⟨xs, .of hp, (isDs_at (i := i) t).1 e1⟩
  · obtain ⟨ds, xs, _, hp, t, e1⟩ := key _ e
    obtain ⟨v, e2, hv⟩ := (isDs_at (i := i) t).2 d e1
    refine ⟨⟨xs, v, .of hp, e2⟩, fun y H' ⟨q1, q2⟩ => ?_⟩
    subst q1
    have := q2 xs (.of hp)
    rw [e2] at this
    cases this
    exact ⟨.refl, r, hv⟩
theorem pdi_seq {e : Expr} {fe : DE} (he : PD X e fe) : PDI X tg e (iSeq fe) :=
  PI.weak (pi_seqA he) fun σ H R ⟨F, ι, Γ, M, it, M', w, e, k⟩ => by
    obtain ⟨⟨s, M1⟩, e1, e⟩ := Option.bind_eq_some_iff.mp e
    refine ⟨F, ι, Γ, M, s, M1, w, e1, fun v ι1 H1 x1 r1 i1 => ?_⟩
    simp only at e
    split at e
    · cases e
      cases i1 with
      | dat i1 =>
        obtain ⟨a, xs, rfl, hp, t⟩ := (Rdb.ofD i1).lst
        exact ⟨a, rfl, .inl ⟨⟨xs, .of hp⟩, k _ ι1 H1 x1 r1 (jok_lst i1)⟩⟩
    · cases e
      cases i1 with
      | dat i1 =>
        obtain ⟨a, xs, rfl, hp, t, _⟩ := (Rdb.ofD i1).tup
        exact ⟨a, rfl, .inr ⟨⟨xs, hp⟩, k _ ι1 H1 x1 r1 (jok_tup i1)⟩⟩
    · split at e
      · rename_i hm
        cases e
        cases i1 with
        | ptr ha =>
          have ow := r1.at_ _ _ _ ha hm
          cases ow with
          | lst hp t => exact ⟨_, rfl, .inl ⟨⟨_, .of hp⟩, k _ ι1 H1 x1 r1 (jok_ptr ha)⟩⟩
      · cases e
    · cases e
def itR (lo : Int) (n : Nat) : DIt := fun _ i => some (if i < n then some (.int (lo + i)) else none)
theorem jok_rng {c : Ct} {ι0 : List Addr} {H0 : Hp} {lo : Int} {n : Nat} : JOk c ι0 H0 (Itr lo n) (itR lo n) := fun ι H M i x r => by
  refine ⟨fun e => ?_, fun d e => ?_⟩
  · have e := Option.some.inj e
    split at e
    · cases e
    · rename_i h
      exact Nat.le_of_not_lt h
  · have e := Option.some.inj e
    split at e
    · rename_i h
      cases e
      refine ⟨h, fun y H' ⟨q1, q2⟩ => ?_⟩
      subst q1 q2
      exact ⟨.refl, r, .int _⟩
    · cases e
def iRng (fr : DA) : DI := fun Γ M => (fr Γ M).bind fun p => match p.1 with
  | [.dat (.int j)] => if -1000000 ≤ j ∧ j ≤ 1000000 then some ((itR 0 j.toNat, j.toNat), p.2) else none
  | [.dat (.int i), .dat (.int j)] => if (-1000000 ≤ i ∧ i ≤ 1000000) ∧ -1000000 ≤ j ∧ j ≤ 1000000 then some ((itR i (j - i).toNat, (j - i).toNat), p.2) else none
  | _ => none
theorem pdi_rng1 {a : Expr} {fr : DA} {p pos : Pos} (hg : Gl X "range") (hm : X.mg "range" = none) (ha : PDA X [a] fr) (hs : starEach [a] X.env = [(false, eval a X.env)] := by rfl) (hl : ∀ Γ M ss M', fr Γ M = some (ss, M') → ss.length = 1 := by intro Γ M ss M' e; exact dlen e) : PDI X tg (.Call (.Name "range" p) [a] [] pos) (iRng fr) :=
  PI.weak (pi_range1 hg hm ha hs) fun σ H R ⟨F, ι, Γ, M, it, M', w, e, k⟩ => by
    obtain ⟨⟨ss, M1⟩, e1, e⟩ := Option.bind_eq_some_iff.mp e
    refine ⟨F, ι, Γ, M, ss, M1, w, e1, fun vs ι1 H1 x1 r1 i1 => ?_⟩
    have hl1 := hl _ _ _ _ e1
    simp only at e
    split at e
    · split at e
      · rename_i hb
        cases e
        cases i1 with
        | cons h t =>
          cases t
          cases h with
          | dat h =>
            cases h
            exact ⟨_, rfl, by omega, by omega, k _ ι1 H1 x1 r1 jok_rng⟩
      · cases e
    · cases hl1
    · cases e
theorem pdi_rng2 {a b : Expr} {fr : DA} {p pos : Pos} (hg : Gl X "range") (hm : X.mg "range" = none) (ha : PDA X [a, b] fr) (hs : starEach [a, b] X.env = [(false, eval a X.env), (false, eval b X.env)] := by rfl) (hs2 : starEach [b] X.env = [(false, eval b X.env)] := by rfl)
    (hl : ∀ Γ M ss M', fr Γ M = some (ss, M') → ss.length = 2 := by intro Γ M ss M' e; exact dlen e) : PDI X tg (.Call (.Name "range" p) [a, b] [] pos) (iRng fr) :=
  PI.weak (pi_range2 hg hm ha hs hs2) fun σ H R ⟨F, ι, Γ, M, it, M', w, e, k⟩ => by
    obtain ⟨⟨ss, M1⟩, e1, e⟩ := Option.bind_eq_some_iff.mp e
    refine ⟨F, ι, Γ, M, ss, M1, w, e1, fun vs ι1 H1 x1 r1 i1 => ?_⟩
    have hl1 := hl _ _ _ _ e1
    simp only at e
    split at e
    · cases hl1
    · split at e
      · rename_i hb
        cases e
        cases i1 with
        | cons h t =>
          cases t with
          | cons h' t =>
            cases t
            cases h with
            | dat h =>
              cases h
              cases h' with
              | dat h' =>
                cases h'
                exact ⟨_, _, rfl, ⟨by omega, by omega, by omega, by omega⟩, k _ ι1 H1 x1 r1 jok_rng⟩
      · cases e
    · cases e
theorem dlen_nil {Γ : Ga} {M M' : Sto} {ss : List SV} (e : dNil Γ M = some (ss, M')) : ss.length = 0 := by cases e; rfl
theorem dlen_cons {fa : DE} {fr : DA} {n : Nat} (h : ∀ Γ M ss M', fr Γ M = some (ss, M') → ss.length = n) {Γ : Ga} {M M' : Sto} {ss : List SV} (e : dCons fa fr Γ M = some (ss, M')) : ss.length = n + 1 := by
  obtain ⟨⟨s, M1⟩, e1, e⟩ := Option.bind_eq_some_iff.mp e
  obtain ⟨⟨r, M2⟩, e2, e⟩ := Option.bind_eq_some_iff.mp e
  cases e
  rw [List.length_cons, h _ _ _ _ e2]
theorem dlen1 {fa : DE} : ∀ Γ M ss M', dCons fa dNil Γ M = some (ss, M') → ss.length = 1 := fun _ _ _ _ e => dlen_cons (fun _ _ _ _ e => dlen_nil e) e
theorem dlen2 {fa fb : DE} : ∀ Γ M ss M', dCons fa (dCons fb dNil) Γ M = some (ss, M') → ss.length = 2 := fun _ _ _ _ e => dlen_cons dlen1 e
end

def forL (it : DIt) (tg : DG) (body : DS) : Nat → Nat → Ga → Sto → Option (Fl × Ga × Sto)
  | 0, _, _, _ => none
  | k + 1, i, Γ, M => match it M i with
    | none => none
    | some none => some (.nx, Γ, M)
    | some (some d) => (tg d Γ).bind fun Γ1 => (body Γ1 M).bind fun r => match r.1 with
      | .nx => forL it tg body k (i + 1) r.2.1 r.2.2
      | .ct => forL it tg body k (i + 1) r.2.1 r.2.2
      | .bk => some (.nx, r.2.1, r.2.2)
      | .rt s => some (.rt s, r.2.1, r.2.2)
def sFor (fi : DI) (tg : DG) (body : DS) : DS := fun Γ M => (fi Γ M).bind fun p => forL p.1.1 tg body (p.1.2 + 1) 0 Γ p.2
theorem pds_for {X : Cx} {tg iter : Expr} {body : List Stmt} {fi : DI} {ts : List Nat} {g : DG} {fb : DS} {pos : Pos} (hp : PassesOwn (model X.prog X.w) X.A X.env X.xe) (hc : X.calm = true) (hi : PDI X tg iter fi) (hg : PDG X tg ts g) (hb : PDSs X body fb)
    (hs : ∀ x, foldedSetIterable iter X.env x = pure x := by intro _; rfl) : PDS X (.For tg iter body [] pos) (sFor fi g fb) :=
  PS.weak (ps_for hp hc hi hg hb hs) fun E σ H ⟨F, ι, Γ, M, fl, Γ', M', w, e, k⟩ => by
    obtain ⟨⟨⟨it, n⟩, M1⟩, e1, e⟩ := Option.bind_eq_some_iff.mp e
    refine ⟨F, ι, Γ, M, (it, n), M1, w, e1, fun J ι1 H1 x1 r1 j1 => ?_⟩
    refine ⟨fun i m σ2 H2 => ∃ ι2 Γ2 M2, Ext ι1 H1 ι2 H2 ∧ Wd ((ctx X).at F) ι2 σ2 H2 Γ2 M2 ∧ forL it g fb m i Γ2 M2 = some (fl, Γ', M'), ⟨n + 1, ι1, Γ, M1, .refl, w.next x1 r1, e⟩, ?_⟩
    rintro i m σ2 H2 ⟨ι2, Γ2, M2, x2, w2, e2⟩
    cases m with
    | zero => cases e2
    | succ m =>
      obtain ⟨j2, j3⟩ := j1 ι2 H2 M2 i x2 w2.rep
      rw [forL] at e2
      split at e2
      · cases e2
      · rename_i hit
        cases e2
        exact .inl ⟨j2 hit, k ι2 σ2 H2 (x1.trans x2) w2⟩
      · rename_i d hit
        obtain ⟨g1, g2⟩ := j3 d hit
        obtain ⟨Γ3, e3, e2⟩ := Option.bind_eq_some_iff.mp e2
        obtain ⟨⟨f4, Γ4, M4⟩, e4, e2⟩ := Option.bind_eq_some_iff.mp e2
        refine .inr ⟨g1, fun σ5 H5 => ∃ ι5 Γ5 M5, Ext ι1 H1 ι5 H5 ∧ Wd ((ctx X).at F) ι5 σ5 H5 Γ5 M5 ∧ forL it g fb m (i + 1) Γ5 M5 = some (fl, Γ', M'), fun σ5 H5 ⟨ι5, Γ5, M5, a, b, c⟩ => ⟨m, Nat.lt_succ_self m, ι5, Γ5, M5, a, b, c⟩, fun x H3 y => ?_⟩
        obtain ⟨x3, r3, hd⟩ := g2 x H3 y
        refine ⟨F, ι2, Γ2, M2, d, Γ3, w2.next x3 r3, hd, e3, fun σ3 _ w3 => ?_⟩
        refine ⟨F, ι2, Γ3, M2, f4, Γ4, M4, w3, e4, fun ι4 σ4 H4 x4 w4 => ?_⟩
        have xx := x2.trans (x3.trans x4)
        cases f4 with
        | nx => exact ⟨ι4, Γ4, M4, xx, w4, e2⟩
        | ct => exact ⟨ι4, Γ4, M4, xx, w4, e2⟩
        | bk => cases e2; exact k ι4 σ4 H4 (x1.trans xx) w4
        | rt s => cases e2; exact k ι4 σ4 H4 (x1.trans xx) w4

def wipeG (Γ : Ga) : List Nat → Ga
  | [] => Γ
  | v :: vs => (wipeG Γ vs).set v none
theorem wipeG_length (Γ : Ga) : ∀ vs : List Nat, (wipeG Γ vs).length = Γ.length
  | [] => rfl
  | v :: vs => by unfold wipeG; rw [List.length_set, wipeG_length Γ vs]
theorem wipeG_some {Γ : Ga} {i : Nat} {x : SV} : ∀ {vs : List Nat}, (wipeG Γ vs)[i]? = some (some x) → Γ[i]? = some (some x) ∧ i ∉ vs
  | [], h => ⟨h, by simp⟩
  | v :: vs, h => by
    unfold wipeG at h
    by_cases hi : v = i
    · subst hi
      by_cases hv : v < (wipeG Γ vs).length
      · rw [List.getElem?_set_self hv] at h; cases h
      · rw [List.getElem?_eq_none (by simpa using hv)] at h; cases h
    · rw [List.getElem?_set_ne hi] at h
      obtain ⟨h1, h2⟩ := wipeG_some h
      exact ⟨h1, by simp only [List.mem_cons, not_or]; exact ⟨fun e => hi e.symm, h2⟩⟩
theorem Wd.wipe {c : Ct} {ι : List Addr} {σ : L2.St} {H : Hp} {Γ : Ga} {M : Sto} (w : Wd c ι σ H Γ M) (vs : List Nat) : Wd c ι (L2.wipe σ vs) H (wipeG Γ vs) M :=
  ⟨w.rep, by rw [wipe_length, wipeG_length]; exact w.len, fun i s h => by
    obtain ⟨h1, h2⟩ := wipeG_some h
    obtain ⟨v, h3, h4⟩ := w.at_ i s h1
    exact ⟨v, by rw [wipe_at, if_neg h2]; exact h3, h4⟩⟩
def compL (it : DIt) (tg : DG) (own : List Nat) (Γ : Ga) (tt : DT) (te : DE) : Nat → Nat → Sto → Option Sto
  | 0, _, _ => none
  | k + 1, i, M => match it M i with
    | none => none
    | some none => some M
    | some (some d) => (tg d (wipeG Γ own)).bind fun Γ1 => (tt Γ1 M).bind fun b => if b.1 = true then (te Γ1 b.2).bind fun p => match p.1, p.2.getLast? with
        | .dat d', some (.list acc) => if p.2.length = M.length ∧ acc.length < LIM then compL it tg own Γ tt te k (i + 1) (p.2.dropLast ++ [.list (acc ++ [d'])]) else none
        | _, _ => none
      else if b.2.length = M.length then compL it tg own Γ tt te k (i + 1) b.2 else none
def dComp (fi : DI) (tg : DG) (own : List Nat) (tt : DT) (te : DE) : DE := fun Γ M => (fi Γ M).bind fun p => (compL p.1.1 tg own Γ tt te (p.1.2 + 1) 0 (p.2 ++ [.list []])).bind fun M' => if M'.length = p.2.length + 1 then some (.ptr p.2.length, M') else none
def tYes_ : DT := fun _ M => some (true, M)
abbrev PDTs (X : Cx) (ifs : List Expr) (f : DT) : Prop := PTs X ifs (rdT (ctx X) f)
theorem PTs.weak {X : Cx} {e : List Expr} {t t' : TT} (h : PTs X e t) (w : ∀ σ H Q, t' σ H Q → t σ H Q) : PTs X e t' := ⟨fun pins s σ H Q I q => h.run pins s σ H Q I (w σ H Q q)⟩
theorem pdts_nil {X : Cx} : PDTs X [] tYes_ := PTs.weak pts_nil fun σ H Q ⟨F, ι, Γ, M, b, M', w, e, k⟩ => by
  cases e
  exact k ι H .refl w.rep
theorem pdts_one {X : Cx} {e : Expr} {f : DT} (h : PDT X e f) : PDTs X [e] f := pts_one h
theorem rep_ptr {c : Ct} {ι : List Addr} {H : Hp} {M : Sto} (r : Rep c ι H M) {n : Nat} {d : D} (h : M[n]? = some d) : ∃ a, ι[n]? = some a := by
  have hl : n < ι.length := by rw [r.len]; exact (List.getElem?_eq_some_iff.mp h).1
  exact ⟨ι[n], List.getElem?_eq_getElem hl⟩
theorem rd_comp {c : Ct} {fi : DI} {ts own : List Nat} {g : DG} {tt : DT} {te : DE} {σ : L2.St} {H : Hp} {Q : VK} (ho : ∀ k ∈ ts, k ∈ own) (q : rdE c (dComp fi g own tt te) σ H Q) : tLc (rdI c fi) (rdG c ts g) (rdT c tt) (rdE c te) own σ H Q := by
  obtain ⟨F, ι, Γ, M, s, M', w, e, k⟩ := q
  obtain ⟨⟨⟨it, n⟩, M1⟩, e1, e⟩ := Option.bind_eq_some_iff.mp e
  obtain ⟨Mr, er, e⟩ := Option.bind_eq_some_iff.mp e
  split at e
  case isFalse => cases e
  rename_i hlr
  cases e
  refine ⟨F, ι, Γ, M, (it, n), M1, w, e1, fun J ι1 H1 x1 r1 j1 => ?_⟩
  intro Dp hD
  have w1 := w.next x1 r1
  have rP : Rep (c.at F) (ι1 ++ [Dp]) (upd H1 Dp (.lst [])) (M1 ++ [.list []]) := r1.newP hD (.lst upd_same .nil)
  have xP : Ext ι1 H1 (ι1 ++ [Dp]) (upd H1 Dp (.lst [])) := Ext.newP hD
  refine ⟨fun i m H2 => ∃ M2, Ext (ι1 ++ [Dp]) (upd H1 Dp (.lst [])) (ι1 ++ [Dp]) H2 ∧ Rep (c.at F) (ι1 ++ [Dp]) H2 M2 ∧ compL it g own Γ tt te m i M2 = some M', ⟨n + 1, M1 ++ [.list []], .refl, rP, er⟩, ?_⟩
  rintro i m H2 ⟨M2, x2, r2, e2⟩
  have hl2 : M2.length = M1.length + 1 := by
    have := r2.len
    rw [List.length_append, List.length_singleton, r1.len] at this
    exact this.symm
  have hDp : (ι1 ++ [Dp])[M1.length]? = some Dp := ptr_last r1.len
  cases m with
  | zero => cases e2
  | succ m =>
    obtain ⟨j2, j3⟩ := j1 (ι1 ++ [Dp]) H2 M2 i (xP.trans x2) r2
    rw [compL] at e2
    split at e2
    · cases e2
    · rename_i hit
      cases e2
      refine .inl ⟨j2 hit, k _ (ι1 ++ [Dp]) H2 (x1.trans (xP.trans x2)) r2 (.ptr hDp)⟩
    · rename_i d hit
      obtain ⟨g1, g2⟩ := j3 d hit
      obtain ⟨Γ3, e3, e2⟩ := Option.bind_eq_some_iff.mp e2
      obtain ⟨⟨b, M4⟩, e4, e2⟩ := Option.bind_eq_some_iff.mp e2
      refine .inr ⟨g1, fun H5 => ∃ M5, Ext (ι1 ++ [Dp]) (upd H1 Dp (.lst [])) (ι1 ++ [Dp]) H5 ∧ Rep (c.at F) (ι1 ++ [Dp]) H5 M5 ∧ compL it g own Γ tt te m (i + 1) M5 = some M', fun H5 ⟨M5, a, b, c⟩ => ⟨m, Nat.lt_succ_self m, M5, a, b, c⟩, fun x H3 y => ?_⟩
      obtain ⟨x3, r3, hd⟩ := g2 x H3 y
      have w3 := ((w1.next (xP.trans (x2.trans x3)) r3)).wipe own
      refine ⟨F, ι1 ++ [Dp], wipeG Γ own, M2, d, Γ3, w3, hd, e3, fun σ3 a3 w3' => ⟨AtMost.wipe (a3.mono ho) |>.trans ?_, ?_⟩⟩
      · apply List.ext_getElem?
        intro k
        rw [wipe_at, wipe_at]
        by_cases hk : k ∈ own
        · rw [if_pos hk, if_pos hk]
          cases σ[k]? <;> rfl
        · rw [if_neg hk]
      · refine ⟨F, ι1 ++ [Dp], Γ3, M2, b, M4, w3', e4, fun ι4 H4 x4 r4 => ?_⟩
        -- the store keeps its length: so do the addresses
        have same : ∀ {ιn : List Addr} {Hn : Hp} {Mn : Sto} {Ha : Hp}, Ext (ι1 ++ [Dp]) Ha ιn Hn → Rep (c.at F) ιn Hn Mn → Mn.length = M2.length → ιn = ι1 ++ [Dp] := fun {ιn Hn Mn Ha} x r hl => by
          obtain ⟨l, rfl, _⟩ := x.pre
          have := r.len
          have h0 := r2.len
          rw [List.length_append] at this
          have : l.length = 0 := by omega
          rw [List.length_eq_zero_iff.mp this, List.append_nil]
        cases b with
        | false =>
          rw [if_neg Bool.false_ne_true] at e2
          split at e2
          case isFalse => cases e2
          rename_i hl
          have := same x4 r4 hl
          subst this
          exact iteF ⟨M4, x2.trans (x3.trans x4), r4, e2⟩
        | true =>
          rw [if_pos rfl] at e2
          obtain ⟨⟨s5, M5⟩, e5, e2⟩ := Option.bind_eq_some_iff.mp e2
          refine iteT ⟨F, ι4, Γ3, M4, s5, M5, w3'.next x4 r4, e5, fun v ι5 H5 x5 r5 i5 => ?_⟩
          simp only at e2
          split at e2
          · rename_i d' acc hlast
            split at e2
            case isFalse => cases e2
            rename_i hl
            have := same (x4.trans x5) r5 hl.1
            subst this
            cases i5 with
            | dat i5 =>
              have hM5 : M5[M1.length]? = some (.list acc) := by
                rw [List.getLast?_eq_getElem?] at hlast
                rw [← hlast]
                congr 1
                omega
              have ow := r5.at_ _ _ _ hDp hM5
              have hM5' : M5 = M5.dropLast ++ [.list acc] := getLast_split (by omega) hM5
              have hset : M5.set M1.length (.list (acc ++ [d'])) = M5.dropLast ++ [.list (acc ++ [d'])] := by
                have hd : M5.dropLast.length = M1.length := by rw [List.length_dropLast]; omega
                conv => lhs; rw [hM5']
                rw [List.set_append_right _ _ (by omega), hd, Nat.sub_self]
                rfl
              cases ow with
              | @lst xs _ hp t =>
                have xw : Ext (ι1 ++ [Dp]) H5 (ι1 ++ [Dp]) (upd H5 Dp (.lst (xs ++ [v]))) := Ext.write hDp
                refine ⟨xs, hp, by rw [t.length]; exact lim_lt (Nat.le_of_lt hl.2), M5.dropLast ++ [.list (acc ++ [d'])], x2.trans (x3.trans (x4.trans (x5.trans xw))), ?_, e2⟩
                rw [← hset]
                exact r5.write hDp (.lst upd_same ((t.append (.cons i5 .nil)).mono xw))
          · cases e2
section
variable {X : Cx} {elt tg iter : Expr} {ifs : List Expr} {scope : Scope} {own : List (Str × Nat)} {pos : Pos} {fi : DI} {ts : List Nat} {g : DG} {tt : DT} {te : DE}
theorem pd_comp (hc : X.calm = true) (hN : X.N.Nodup) (hi : PDI X tg iter fi) (ok : BlkOk X.N X.env.scope scope own)
    (hg : ∀ (s : Shared) (H : Hp) (C : Addr) (cl : List (Str × Addr)) (fp : List Addr), PDG (X.blk s H scope (compEnvC scope cl C X.env) fp) tg ts g) (ht : ∀ (s : Shared) (H : Hp) (C : Addr) (cl : List (Str × Addr)) (fp : List Addr), PDTs (X.blk s H scope (compEnvC scope cl C X.env) fp) ifs tt)
    (he : ∀ (s : Shared) (H : Hp) (C : Addr) (cl : List (Str × Addr)) (fp : List Addr), PD (X.blk s H scope (compEnvC scope cl C X.env) fp) elt te) (ho : ∀ k ∈ ts, k ∈ own.map (·.2) := by decide) (hs : ∀ x, foldedSetIterable iter X.env x = pure x := by intro _; rfl) :
    PD X (.ListComp elt [⟨tg, iter, ifs, 0⟩] scope pos) (dComp fi g (own.map (·.2)) tt te) :=
  PE.weak (pe_lc hc hN hi ok hg ht he hs) fun σ H Q q => rd_comp (c := ctx X) ho q
theorem pds_setComp {i : Nat} {y : Str} {py spos : Pos} (hc : X.calm = true) (hN : X.N.Nodup) (hy : X.N[i]? = some y) (hyl : X.env.scope.names.lookup y = some .local)
    (hsw : swapsWith (.ListComp elt [⟨tg, iter, ifs, 0⟩] scope pos) (some (.Name y py)) spos.line X.env = pure true) (hi : PDI X tg iter fi) (ok : BlkOk X.N X.env.scope scope own)
    (hg : ∀ (s : Shared) (H : Hp) (C : Addr) (cl : List (Str × Addr)) (fp : List Addr), PDG (X.blk s H scope (compEnvC scope cl C X.env) fp) tg ts g) (ht : ∀ (s : Shared) (H : Hp) (C : Addr) (cl : List (Str × Addr)) (fp : List Addr), PDTs (X.blk s H scope (compEnvC scope cl C X.env) fp) ifs tt)
    (he : ∀ (s : Shared) (H : Hp) (C : Addr) (cl : List (Str × Addr)) (fp : List Addr), PD (X.blk s H scope (compEnvC scope cl C X.env) fp) elt te) (ho : ∀ k ∈ ts, k ∈ own.map (·.2) := by decide) (hs : ∀ x, foldedSetIterable iter X.env x = pure x := by intro _; rfl) :
    PDS X (.Assign [.Name y py] (.ListComp elt [⟨tg, iter, ifs, 0⟩] scope pos) spos) (sAsg i (dComp fi g (own.map (·.2)) tt te)) :=
  ps_asgD (ps_setLc hc hN hy hyl hsw hi ok hg ht he hs) fun σ H Q q => rd_comp (c := ctx X) ho q
end
end DL
namespace DL
open PySem PySem.Spec PyProof.Rows L2

abbrev FnT := List SV → Sto → Option (D × Sto)
def fnOut (k : Nat) (r : Fl × Ga × Sto) : Option (D × Sto) := match r.1 with
  | .rt (.dat d) => some (d, r.2.2.take k)
  | .rt (.ptr n) => if k ≤ n then (r.2.2[n]?).map fun d => (d, r.2.2.take k) else none
  | .nx => some (.none, r.2.2.take k)
  | _ => none
def dFun (N : Nat) (body : DS) : FnT := fun ss M => (body (ss.map some ++ List.replicate (N - ss.length) none) M).bind (fnOut M.length)
def spD (c : Ct) (n : Nat) (g : FnT) : Sp := fun vs H Q _ => ∃ F ι ss M d M', ss.length = n ∧ Rep (c.at F) ι H M ∧ IsSs (c.at F) ι H vs ss ∧ g ss M = some (d, M') ∧
  ∀ v H', Ext ι H ι H' → Rep (c.at F) ι H' M' → IsD (c.at F) ι H' v d → Q v H'
theorem IsSs.length {c : Ct} {ι : List Addr} {H : Hp} : ∀ {vs : List V} {ss : List SV}, IsSs c ι H vs ss → vs.length = ss.length
  | _, _, .nil => rfl
  | _, _, .cons _ t => by rw [List.length_cons, List.length_cons, IsSs.length t]
theorem IsSs.get {c : Ct} {ι : List Addr} {H : Hp} : ∀ {vs : List V} {ss : List SV} {i : Nat} {s : SV}, IsSs c ι H vs ss → ss[i]? = some s → ∃ v, vs[i]? = some v ∧ IsS c ι H v s
  | _, _, 0, _, .cons h t, e => by
    have e' := Option.some.inj e
    subst e'
    exact ⟨_, rfl, h⟩
  | _, _, i + 1, _, .cons h t, e => IsSs.get (i := i) t e
  | _, _, _, _, .nil, e => by simp at e
/-- the changing objects made within are let go -/
theorem Rep.cutBack {c : Ct} {ι l : List Addr} {H : Hp} {M : Sto} {k : Nat} (hk : ι.length = k) (r : Rep c (ι ++ l) H M) : Rep c ι H (M.take k) := by
  have hl : (ι ++ l).length = M.length := r.len
  rw [List.length_append] at hl
  refine ⟨by rw [List.length_take]; omega, (List.nodup_append.mp r.nd).1, fun a h => ⟨fun q => (r.fr a h).1 (List.mem_append_left _ q), (r.fr a h).2⟩, fun n a d h1 h2 => ?_⟩
  have hn := (List.getElem?_eq_some_iff.mp h1).1
  rw [List.getElem?_take_of_lt (by omega)] at h2
  refine (r.at_ n a d (by rw [List.getElem?_append_left hn]; exact h1) h2).sub (c := c) fun b hb => hb.imp id fun h => List.mem_append_left _ h
theorem Ext.back {ι l : List Addr} {H H' : Hp} (x : Ext ι H (ι ++ l) H') : Ext ι H ι H' := ⟨⟨[], by simp⟩, x.keep, x.dom⟩
section
variable {P : Program} {w : World} {K : PySem.W.Frag} {mg : Str → Option Value} {base : Heap} {x qual : Str} {params : Arguments} {body : List Stmt} {scope : Scope} {f : Addr} {fd : FuncData}
theorem fn_ok {N ps : List Str} {k : Nat} {db : DS} (F : FunD K x qual params body scope [] [] f fd) (S : FnScope N ps scope) (hps : ps.length ≤ N.length := by decide)
    (hb : ∀ (cdv : Value) (A : Around) (outer : List Env) (s : Shared) (H : Hp) (E : XK), Room k (A.deeper (envOfC qual scope s.heap.objs.size f cdv)) → PDSs (cxOf CX0 P w K mg base N qual scope f cdv A outer s H E).nox body db) :
    FnOk P w K mg base CX0 (k + 1) f fd ps (spD ⟨P, w, K, []⟩ ps.length (dFun N.length db)) := by
  refine F.ok S (fun vs H Q E h => ?_) (fun cdv A outer s H vs Q E hr h => ?_)
  · obtain ⟨F, ι, ss, M, d, M', hn, r, i, _⟩ := h
    rw [i.length]; exact hn
  · obtain ⟨F, ι, ss, M, d, M', hn, r, i, e, q⟩ := h
    refine ⟨_, PSs.nox (hb cdv A outer s H E hr), ?_⟩
    obtain ⟨⟨fl, Γ', M2⟩, e1, e⟩ := Option.bind_eq_some_iff.mp e
    have hvl := i.length
    refine ⟨F, ι, _, M, fl, Γ', M2, ⟨r, ?_, fun j s' hs => ?_⟩, e1, fun ι' σ' H' x1 w1 => ?_⟩
    · show (vs.map some ++ List.replicate (N.length - vs.length) none).length = _
      rw [List.length_append, List.length_append, List.length_map, List.length_map, List.length_replicate, List.length_replicate, hvl]
    · by_cases hj : j < ss.length
      · rw [List.getElem?_append_left (by rw [List.length_map]; exact hj), List.getElem?_map] at hs
        obtain ⟨t, ht, e⟩ := Option.map_eq_some_iff.mp hs
        cases e
        obtain ⟨v, h1, h2⟩ := i.get ht
        refine ⟨v, ?_, h2⟩
        show (vs.map some ++ List.replicate (N.length - vs.length) none)[j]? = _
        rw [List.getElem?_append_left (by rw [List.length_map, hvl]; exact hj), List.getElem?_map, h1]; rfl
      · rw [List.getElem?_append_right (by rw [List.length_map]; omega)] at hs
        have := List.mem_of_getElem? hs
        rw [List.mem_replicate] at this
        cases this.2
    · obtain ⟨l, el, hl⟩ := x1.pre
      subst el
      have hk := r.len
      have r2 := Rep.cutBack hk w1.rep
      have sb : ∀ a, a ∈ F ∨ a ∈ ι → a ∈ F ∨ a ∈ ι ++ l := fun b hb => hb.imp id fun h => List.mem_append_left _ h
      cases fl with
      | nx =>
        cases e
        exact q _ H' x1.back r2 .non
      | rt s =>
        intro v iv
        cases s with
        | dat d' =>
          cases e
          cases iv with
          | dat iv => exact q v H' x1.back r2 (iv.sub (c := ⟨P, w, K, []⟩) sb)
        | ptr n =>
          simp only [fnOut] at e
          split at e
          case isFalse => cases e
          rename_i hkn
          obtain ⟨d', hd, e⟩ := Option.map_eq_some_iff.mp e
          cases e
          cases iv with
          | @ptr a _ ha =>
            have ow := w1.rep.at_ n a _ ha hd
            refine q _ H' x1.back r2 ((ow.sub (c := ⟨P, w, K, []⟩) sb).isD ⟨fun hm => ?_, fun hm => ?_⟩)
            · exact (w1.rep.fr a hm).1 (List.mem_of_getElem? ha)
            · have h3 : (ι ++ l)[n]? = some a := ha
              rw [List.getElem?_append_right (by rw [hk]; exact hkn)] at h3
              exact (List.nodup_append.mp w1.rep.nd).2.2 a hm a (List.mem_of_getElem? h3) rfl
      | bk => cases e
      | ct => cases e
end

/-- the one changing object among the arguments -/
def onePtr : List SV → Option (Option Nat)
  | [] => some none
  | .dat _ :: r => onePtr r
  | .ptr n :: r => (onePtr r).bind fun o => match o with
    | none => some (some n)
    | some m => if m = n then some (some n) else none
def relab : List SV → List SV
  | [] => []
  | .dat d :: r => .dat d :: relab r
  | .ptr _ :: r => .ptr 0 :: relab r
def callS (g : FnT) (ss : List SV) (M : Sto) : Option (SV × Sto) := (onePtr ss).bind fun o => match o with
  | none => (g ss []).map fun r => (.dat r.1, M)
  | some n => (M[n]?).bind fun d => (g (relab ss) [d]).bind fun r => match r.2 with
    | [d'] => some (.dat r.1, M.set n d')
    | _ => none
def dCall (g : FnT) (fr : DA) : DE := fun Γ M => (fr Γ M).bind fun p => callS g p.1 p.2
theorem IsSs.noPtr {c : Ct} {F ι ι' : List Addr} {F' : List Addr} {H : Hp} (s : ∀ a, a ∈ F' ∨ a ∈ ι' → a ∈ F ∨ a ∈ ι) : ∀ {ss : List SV} {vs : List V}, onePtr ss = some none → IsSs (c.at F) ι H vs ss → IsSs (c.at F') ι' H vs ss
  | [], _, _, h => by cases h; exact .nil
  | .dat d :: r, _, e, h => by
    cases h with
    | cons h t =>
      cases h with
      | dat h => exact .cons (.dat (h.sub s)) (IsSs.noPtr s e t)
  | .ptr n :: r, _, e, h => by
    obtain ⟨o, e1, e2⟩ := Option.bind_eq_some_iff.mp e
    cases o with
    | none => cases e2
    | some m =>
      simp only at e2
      split at e2 <;> cases e2
theorem IsSs.aPtr {c : Ct} {F ι : List Addr} {F' : List Addr} {H : Hp} {n : Nat} {a : Addr} (ha : ι[n]? = some a) (s : ∀ b, b ∈ F' ∨ b ∈ [a] → b ∈ F ∨ b ∈ ι) : ∀ {ss : List SV} {vs : List V} {o : Option Nat}, onePtr ss = some o → (o = none ∨ o = some n) → IsSs (c.at F) ι H vs ss → IsSs (c.at F') [a] H vs (relab ss)
  | [], _, _, _, _, h => by cases h; exact .nil
  | .dat d :: r, _, _, e, k, h => by
    cases h with
    | cons h t =>
      cases h with
      | dat h => exact .cons (.dat (h.sub s)) (IsSs.aPtr ha s e k t)
  | .ptr m :: r, _, _, e, k, h => by
    obtain ⟨o, e1, e2⟩ := Option.bind_eq_some_iff.mp e
    cases h with
    | cons h t =>
      cases h with
      | ptr h =>
        have hm : m = n ∧ (o = none ∨ o = some n) := by
          cases o with
          | none =>
            cases e2
            rcases k with k | k
            · cases k
            · exact ⟨Option.some.inj k, .inl rfl⟩
          | some m' =>
            simp only at e2
            split at e2
            · rename_i hmm
              cases e2
              rcases k with k | k
              · cases k
              · have := Option.some.inj k
                exact ⟨this, .inr (by rw [hmm, this])⟩
            · cases e2
        obtain ⟨rfl, k'⟩ := hm
        rw [ha] at h
        cases h
        exact .cons (.ptr rfl) (IsSs.aPtr ha s e1 k' t)
theorem relab_length : ∀ ss : List SV, (relab ss).length = ss.length
  | [] => rfl
  | .dat _ :: r => by rw [relab, List.length_cons, List.length_cons, relab_length r]
  | .ptr _ :: r => by rw [relab, List.length_cons, List.length_cons, relab_length r]
theorem Own.has {c : Ct} {ι : List Addr} {H : Hp} {a : Addr} {d : D} (h : Own c ι H a d) : ∃ o, H a = some o := h.there
/-- what a call does to the caller's world -/
theorem call_ok {c : Ct} {F ι : List Addr} {H : Hp} {M M' : Sto} {n : Nat} {g : FnT} {ss : List SV} {vs : List V} {s : SV} {Q : VK} {E : XK} (hn : ss.length = n) (r : Rep (c.at F) ι H M) (i : IsSs (c.at F) ι H vs ss) (e : callS g ss M = some (s, M')) (q : Aft (c.at F) ι H M' s Q) : spD c n g vs H Q E := by
  obtain ⟨o, e1, e⟩ := Option.bind_eq_some_iff.mp e
  cases o with
  | none =>
    obtain ⟨⟨d, M2⟩, e2, e⟩ := Option.map_eq_some_iff.mp e
    cases e
    have s1 : ∀ a, a ∈ F ++ ι ∨ a ∈ ([] : List Addr) → a ∈ F ∨ a ∈ ι := fun a h => h.elim (fun h => List.mem_append.mp h) fun h => nomatch h
    have s2 : ∀ a, a ∈ F ∨ a ∈ ι → a ∈ F ++ ι ∨ a ∈ ([] : List Addr) := fun a h => .inl (List.mem_append.mpr h)
    refine ⟨F ++ ι, [], ss, [], d, M2, hn, ⟨rfl, .nil, fun a h => ⟨fun h => (nomatch h), ?_⟩, fun n a d h => (nomatch h)⟩, i.noPtr s1 e1, e2, fun v H' x r' iv => ?_⟩
    · rcases List.mem_append.mp h with h | h
      · exact (r.fr a h).2
      · exact r.there h
    · have x' : Ext ι H ι H' := ⟨⟨[], by simp⟩, fun a o _ h => x.keep a o (fun h => nomatch h) h, x.dom⟩
      refine q v ι H' x' ⟨r.len, r.nd, fun a h => ⟨(r.fr a h).1, let ⟨o, ho⟩ := (r.fr a h).2; ⟨o, x.keep a o (fun h => nomatch h) ho⟩⟩, fun n a d h1 h2 => (r.at_ n a d h1 h2).mono x' fun o ho => x.keep a o (fun h => nomatch h) ho⟩ (.dat (iv.sub s2))
  | some n' =>
    obtain ⟨d0, e2, e⟩ := Option.bind_eq_some_iff.mp e
    obtain ⟨⟨d, M2⟩, e3, e⟩ := Option.bind_eq_some_iff.mp e
    split at e
    case h_2 => cases e
    rename_i d' heq
    simp only at heq
    subst heq
    cases e
    obtain ⟨a, ha⟩ := rep_ptr r e2
    have hm : a ∈ ι := List.mem_of_getElem? ha
    have s1 : ∀ b, b ∈ F ++ ι.filter (fun b => decide (b ≠ a)) ∨ b ∈ [a] → b ∈ F ∨ b ∈ ι := fun b h => by
      rcases h with h | h
      · rcases List.mem_append.mp h with h | h
        · exact .inl h
        · exact .inr (List.mem_filter.mp h).1
      · rw [List.mem_singleton.mp h]
        exact .inr hm
    have s2 : ∀ b, b ∈ F ∨ b ∈ ι → b ∈ F ++ ι.filter (fun b => decide (b ≠ a)) ∨ b ∈ [a] := fun b h => by
      rcases h with h | h
      · exact .inl (List.mem_append_left _ h)
      · by_cases hb : b = a
        · exact .inr (List.mem_singleton.mpr hb)
        · exact .inl (List.mem_append_right _ (List.mem_filter.mpr ⟨h, decide_eq_true hb⟩))
    refine ⟨F ++ ι.filter (fun b => decide (b ≠ a)), [a], relab ss, [d0], d, [d'], by rw [relab_length]; exact hn, ⟨rfl, by simp, fun b h => ⟨fun h' => ?_, ?_⟩, fun m b e' h1 h2 => ?_⟩, i.aPtr ha s1 e1 (.inr rfl), e3, fun v H' x r' iv => ?_⟩
    · have hb := List.mem_singleton.mp h'
      subst hb
      rcases List.mem_append.mp h with h | h
      · exact (r.fr b h).1 hm
      · exact absurd rfl (of_decide_eq_true (List.mem_filter.mp h).2)
    · rcases List.mem_append.mp h with h | h
      · exact (r.fr b h).2
      · exact r.there (List.mem_filter.mp h).1
    · cases m with
      | zero =>
        cases h1
        cases h2
        exact (r.at_ n' a d0 ha e2).sub (c := c) s1
      | succ m => cases h1
    · have x' : Ext ι H ι H' := ⟨⟨[], by simp⟩, fun b o hb h => x.keep b o (fun hb' => hb (by rw [List.mem_singleton.mp hb']; exact hm)) h, x.dom⟩
      refine q v ι H' x' ⟨by rw [List.length_set]; exact r.len, r.nd, fun b h => ⟨(r.fr b h).1, let ⟨o, ho⟩ := (r.fr b h).2; ⟨o, x.keep b o (fun hb' => (r.fr b h).1 (by rw [List.mem_singleton.mp hb']; exact hm)) ho⟩⟩, fun m b e' h1 h2 => ?_⟩ (.dat (iv.sub s2))
      by_cases hmn : m = n'
      · subst hmn
        rw [ha] at h1
        cases h1
        rw [List.getElem?_set_self (by rw [← r.len]; exact (List.getElem?_eq_some_iff.mp ha).1)] at h2
        cases h2
        exact (r'.at_ 0 a d' rfl rfl).sub (c := c) s2
      · rw [List.getElem?_set_ne (Ne.symm hmn)] at h2
        have hb : b ≠ a := fun z => hmn ((List.getElem?_inj (List.getElem?_eq_some_iff.mp h1).1 r.nd).mp (by rw [h1, ha, z]))
        refine (r.at_ m b e' h1 h2).mono x' fun o ho => x.keep b o (fun hb' => hb (List.mem_singleton.mp hb')) ho
section
variable {X : Cx} {k : Nat} {f : Addr} {fd : FuncData} {ps : List Str} {g : FnT} {x : Str} {p pos : Pos} {e : Expr} {es : List Expr} {fr : DA}
/-- a def of the module, by name -/
structure Def (P : Program) (w : World) (K : PySem.W.Frag) (mg : Str → Option Value) (base : Heap) (k : Nat) (x : Str) (n : Nat) (g : FnT) : Prop where
  ex : ∃ (f : Addr) (fd : FuncData) (ps : List Str), FnOk P w K mg base CX0 k f fd ps (spD ⟨P, w, K, []⟩ n g) ∧ mg x = some (.ref f) ∧ PySem.W.keepIn K (.ref f) = true ∧ Binds K fd ps []
theorem Def.mono {P : Program} {w : World} {K : PySem.W.Frag} {mg : Str → Option Value} {base : Heap} {j k : Nat} {x : Str} {n : Nat} {g : FnT} (d : Def P w K mg base j x n g) (h : j ≤ k) : Def P w K mg base k x n g := let ⟨f, fd, ps, a, b, c, e⟩ := d.ex; ⟨f, fd, ps, a.mono h, b, c, e⟩
theorem pd_call {j n : Nat} (d : Def X.prog X.w X.K X.mg X.base j x n g) (hr : Room k X.A) (hg : Gl X x) (ha : PDA X (e :: es) fr) (hl : ∀ Γ M ss M', fr Γ M = some (ss, M') → ss.length = n) (hjk : j ≤ k := by decide) (hdb : (x == ("__debug__" : Str)) = false := by decide)
    (he : starEach (e :: es) X.env = (false, eval e X.env) :: starEach es X.env := by rfl) (hpl : (backTo pos (starEach es X.env)).any (·.1) = false := by rfl) : PD X (.Call (.Name x p) (e :: es) [] pos) (dCall g fr) := by
  obtain ⟨f, fd, ps, F, hm, hk, hb⟩ := d.ex
  refine PE.weak (pe_call (dvs := []) (ds := []) (E := E0) F (hr.mono hjk) hg hm hk hb .nil pass0 ha hdb he hpl) fun σ H Q ⟨F', ι, Γ, M, s, M', w, e, q⟩ => ?_
  obtain ⟨⟨ss, M1⟩, e1, e⟩ := Option.bind_eq_some_iff.mp e
  refine ⟨F', ι, Γ, M, ss, M1, w, e1, fun vs ι1 H1 x1 r1 i1 => ?_⟩
  show spD _ _ _ (vs ++ []) _ _ _
  rw [List.append_nil]
  exact call_ok (c := ctx X) (hl _ _ _ _ e1) r1 i1 e fun v ι2 H2 x2 r2 i2 => q v ι2 H2 (x1.trans x2) r2 i2
theorem dlen3 {fa fb fc : DE} : ∀ Γ M ss M', dCons fa (dCons fb (dCons fc dNil)) Γ M = some (ss, M') → ss.length = 3 := fun _ _ _ _ e => dlen_cons dlen2 e
theorem dlen4 {fa fb fc fd : DE} : ∀ Γ M ss M', dCons fa (dCons fb (dCons fc (dCons fd dNil))) Γ M = some (ss, M') → ss.length = 4 := fun _ _ _ _ e => dlen_cons dlen3 e
theorem dlen5 {fa fb fc fd fe : DE} : ∀ Γ M ss M', dCons fa (dCons fb (dCons fc (dCons fd (dCons fe dNil)))) Γ M = some (ss, M') → ss.length = 5 := fun _ _ _ _ e => dlen_cons dlen4 e
end

def TyP (X : Cx) (T : String) (x : V) (H : Hp) : Prop := ∀ (pins : List (Addr × Obj)) (σ : L2.St) (s : Shared) (v : Value), Inv X pins σ H s → RelV x v → s.TypeIs v T ∧ ∀ a, v = .ref a → ∃ ob, s.heap.get? a = some ob ∧ ob.dict = none
section
variable {X : Cx} {o e : Expr} {es : List Expr} {to : TE} {t : TA} {name : Str} {apos cpos : Pos} {T id : String} {r : V → List V → Hp → VK → Prop}
theorem pe_bmG (pa : PlainAttrs T) (slot : Slot T name id) (hty : typeOf (.builtin id) = pure (.type "method_descriptor")) (hm : MtR X id r) (ho : PE X o to) (ha : PA X (e :: es) t)
    (hbase : attributeBase o name X.env (eval o X.env) = eval o X.env := by rfl)
    (hfew : ((backTo cpos (starEach (e :: es) X.env)).all (fun x => !x.1) && (backToKw cpos (keywordEach [] X.env)).all (fun x => x.1.isSome)
      && decide ((e :: es).length + ([] : List Keyword).length + (if ([] : List Keyword).isEmpty then 0 else 1) < 30)) = true := by rfl)
    (hline : (apos.endLine == cpos.line) = true := by rfl) (hs : starEach (e :: es) X.env = (false, eval e X.env) :: starEach es X.env := by rfl) (hplain : (backTo cpos (starEach es X.env)).any (·.1) = false := by rfl) :
    PE X (.Call (.Attribute o name apos) (e :: es) [] cpos) (fun σ H Q => to σ H fun x H1 => TyP X T x H1 ∧ t σ H1 fun xs H2 => r x xs H2 Q) := by
  refine ⟨fun pins s σ H Q I h => ?_⟩
  refine wpAny_Call_method_late hbase hfew hline rfl (thn (ho.run pins s σ H _ I h) fun v s1 ⟨x, H1, I1, r1, ty, q1⟩ => ?_)
  obtain ⟨h1, h2⟩ := ty pins σ s1 v I1 r1
  refine ⟨T, id, pa, slot, hty, h1, h2, ?_⟩
  have hA := ha.run cpos pins s1 σ H1 _ I1 q1
  rw [hs] at hA ⊢
  refine Calls.callWith_builtin (by show (false || (backTo cpos (starEach es X.env)).any (·.1)) = false; rw [hplain] <;> rfl) (Calls.evalArgs_plain ?_)
  exact thn hA fun us s2 ⟨vs, H2, I2, r2, q2⟩ => hm pins s2 σ H2 x vs v us Q I2 r1 r2 q2
theorem pe_bmG0 (pa : PlainAttrs T) (slot : Slot T name id) (hty : typeOf (.builtin id) = pure (.type "method_descriptor")) (hm : MtR X id r) (ho : PE X o to)
    (hbase : attributeBase o name X.env (eval o X.env) = eval o X.env := by rfl) (hline : (apos.endLine == cpos.line) = true := by rfl) : PE X (.Call (.Attribute o name apos) [] [] cpos) (fun σ H Q => to σ H fun x H1 => TyP X T x H1 ∧ r x [] H1 Q) := by
  refine ⟨fun pins s σ H Q I h => ?_⟩
  refine wpAny_Call_method0_late hbase hline (thn (ho.run pins s σ H _ I h) fun v s1 ⟨x, H1, I1, r1, ty, q1⟩ => ?_)
  obtain ⟨h1, h2⟩ := ty pins σ s1 v I1 r1
  exact ⟨T, id, pa, slot, hty, h1, h2, Calls.callWith_builtin rfl (PySem.evalArgs_none (hm pins s1 σ H1 x [] v [] Q I1 r1 .nil q1))⟩
end
def tyD : String → D → Bool
  | "list", .list _ => true
  | "dict", .dict _ => true
  | "str", .str _ => true
  | _, _ => false
theorem tyP_of {X : Cx} {F ι : List Addr} {H : Hp} {v : V} {d : D} {T : String} (R : Rdb ((ctx X).at F) ι H v d) (h : tyD T d = true) : TyP X T v H := by
  intro pins σ s u I r
  unfold tyD at h
  split at h
  · obtain ⟨a, xs, rfl, hp, t⟩ := R.lst
    exact tyV_is I r (T := "list") (.inl ⟨rfl, xs, .of hp⟩)
  · rename_i kvs
    cases hn : isN kvs with
    | true =>
      obtain ⟨r', rfl⟩ := isN_cons hn
      obtain ⟨a, rfl, xs, ha, t⟩ := R.dn
      cases r
      obtain ⟨h1, h2, hd⟩ := dn_at I ha t
      obtain ⟨o, es, ep, e1, ex, _⟩ := hd
      exact ⟨⟨o, e1, ex.1⟩, fun b e => by cases e; exact ⟨o, e1, ex.2.1⟩⟩
    | false =>
      obtain ⟨a, xs, rfl, ha, t⟩ := R.dk hn
      exact tyV_is I r (T := "dict") (.inr (.inr (.inl ⟨rfl, .inl ⟨_, ha⟩⟩)))
  · cases R.str
    exact tyV_is I r (T := "str") rfl
  · cases h
/-- a method that only reads -/
def dMeth (T : String) (g : D → List D → Option OR) (fo : DE) (fr : DA) : DE := fun Γ M => (fo Γ M).bind fun p => (val p.1 p.2).bind fun d1 => if tyD T d1 = true then (fr Γ p.2).bind fun q => (val p.1 q.2).bind fun d => (dats q.1).bind fun ds => (g d ds).map fun o => o.out q.2 else none
/-- a method that writes its object -/
def dMethW (T : String) (g : D → List D → Option (D × D)) (fo : DE) (fr : DA) : DE := fun Γ M => (fo Γ M).bind fun p => match p.1 with
  | .ptr n => (p.2[n]?).bind fun d1 => if tyD T d1 = true then (fr Γ p.2).bind fun q => (q.2[n]?).bind fun d => (dats q.1).bind fun ds => (g d ds).map fun o => (.dat o.2, q.2.set n o.1) else none
  | _ => none
def RMD (c : Ct) (r : V → List V → Hp → VK → Prop) (g : D → List D → Option OR) : Prop := ∀ (F ι : List Addr) (H : Hp) (M : Sto) (x : V) (xs : List V) (d : D) (ds : List D) (o : OR) (Q : VK), Rep (c.at F) ι H M → Rdb (c.at F) ι H x d → IsDs (c.at F) ι H xs ds → g d ds = some o → AftO (c.at F) ι H M o Q → r x xs H Q
def RMW (c : Ct) (r : V → List V → Hp → VK → Prop) (g : D → List D → Option (D × D)) : Prop := ∀ (F ι : List Addr) (H : Hp) (M : Sto) (a : Addr) (n : Nat) (xs : List V) (d d' res : D) (ds : List D) (Q : VK), Rep (c.at F) ι H M → ι[n]? = some a → Own (c.at F) ι H a d → IsDs (c.at F) ι H xs ds → g d ds = some (d', res) →
  (∀ v H', Ext ι H ι H' → Rep (c.at F) ι H' (M.set n d') → IsD (c.at F) ι H' v res → Q v H') → r (.ref a) xs H Q
section
variable {X : Cx} {o e : Expr} {es : List Expr} {fo : DE} {fr : DA} {name : Str} {apos cpos : Pos} {T id : String} {r : V → List V → Hp → VK → Prop}
theorem rd_meth {g : D → List D → Option OR} (hr : RMD (ctx X) r g) {σ : L2.St} {H : Hp} {Q : VK} (q : rdE (ctx X) (dMeth T g fo fr) σ H Q) : (rdE (ctx X) fo) σ H fun x H1 => TyP X T x H1 ∧ (rdA (ctx X) fr) σ H1 fun xs H2 => r x xs H2 Q := by
  obtain ⟨F, ι, Γ, M, s, M', w, e, k⟩ := q
  obtain ⟨⟨so, M1⟩, e1, e⟩ := Option.bind_eq_some_iff.mp e
  obtain ⟨d1, e2, e⟩ := Option.bind_eq_some_iff.mp e
  split at e
  case isFalse => cases e
  rename_i ht
  obtain ⟨⟨ss, M2⟩, e3, e⟩ := Option.bind_eq_some_iff.mp e
  obtain ⟨d, e4, e⟩ := Option.bind_eq_some_iff.mp e
  obtain ⟨ds, e5, e⟩ := Option.bind_eq_some_iff.mp e
  obtain ⟨o, e6, e⟩ := Option.map_eq_some_iff.mp e
  refine ⟨F, ι, Γ, M, so, M1, w, e1, fun v ι1 H1 x1 r1 i1 => ⟨tyP_of (rdb_of r1 i1 e2) ht, ?_⟩⟩
  refine ⟨F, ι1, Γ, M1, ss, M2, w.next x1 r1, e3, fun vs ι2 H2 x2 r2 i2 => ?_⟩
  refine hr F ι2 H2 M2 v vs d ds o Q r2 (rdb_of r2 (i1.mono x2) e4) (dats_ok e5 i2) e6 fun v' ι3 H3 x3 r3 i3 => ?_
  simp only [e] at r3 i3
  exact k v' ι3 H3 (x1.trans (x2.trans x3)) r3 i3
theorem pd_meth {g : D → List D → Option OR} (pa : PlainAttrs T) (slot : Slot T name id) (hty : typeOf (.builtin id) = pure (.type "method_descriptor")) (hm : MtR X id r) (hr : RMD (ctx X) r g) (ho : PD X o fo) (ha : PDA X (e :: es) fr)
    (hbase : attributeBase o name X.env (eval o X.env) = eval o X.env := by rfl)
    (hfew : ((backTo cpos (starEach (e :: es) X.env)).all (fun x => !x.1) && (backToKw cpos (keywordEach [] X.env)).all (fun x => x.1.isSome)
      && decide ((e :: es).length + ([] : List Keyword).length + (if ([] : List Keyword).isEmpty then 0 else 1) < 30)) = true := by rfl)
    (hline : (apos.endLine == cpos.line) = true := by rfl) (hs : starEach (e :: es) X.env = (false, eval e X.env) :: starEach es X.env := by rfl) (hplain : (backTo cpos (starEach es X.env)).any (·.1) = false := by rfl) :
    PD X (.Call (.Attribute o name apos) (e :: es) [] cpos) (dMeth T g fo fr) :=
  PE.weak (pe_bmG pa slot hty hm ho ha hbase hfew hline hs hplain) fun _ _ _ => rd_meth hr
theorem pd_meth0 {g : D → List D → Option OR} (pa : PlainAttrs T) (slot : Slot T name id) (hty : typeOf (.builtin id) = pure (.type "method_descriptor")) (hm : MtR X id r) (hr : RMD (ctx X) r g) (ho : PD X o fo)
    (hbase : attributeBase o name X.env (eval o X.env) = eval o X.env := by rfl) (hline : (apos.endLine == cpos.line) = true := by rfl) : PD X (.Call (.Attribute o name apos) [] [] cpos) (dMeth T g fo dNil) :=
  PE.weak (pe_bmG0 pa slot hty hm ho hbase hline) fun σ H Q q => by
    obtain ⟨F, ι, Γ, M, s, M', w, e, k⟩ := rd_meth (X := X) (fr := dNil) hr q
    refine ⟨F, ι, Γ, M, s, M', w, e, fun v ι1 H1 x1 r1 i1 => ?_⟩
    obtain ⟨h1, F', ι', Γ', M2, ss, M3, w2, e2, k2⟩ := k v ι1 H1 x1 r1 i1
    cases e2
    exact ⟨h1, k2 [] ι' H1 .refl w2.rep .nil⟩
theorem rd_methW {g : D → List D → Option (D × D)} (hr : RMW (ctx X) r g) {σ : L2.St} {H : Hp} {Q : VK} (q : rdE (ctx X) (dMethW T g fo fr) σ H Q) : (rdE (ctx X) fo) σ H fun x H1 => TyP X T x H1 ∧ (rdA (ctx X) fr) σ H1 fun xs H2 => r x xs H2 Q := by
  obtain ⟨F, ι, Γ, M, s, M', w, e, k⟩ := q
  obtain ⟨⟨so, M1⟩, e1, e⟩ := Option.bind_eq_some_iff.mp e
  refine ⟨F, ι, Γ, M, so, M1, w, e1, fun v ι1 H1 x1 r1 i1 => ?_⟩
  simp only at e
  split at e
  case h_2 => cases e
  rename_i n
  obtain ⟨d1, e2, e⟩ := Option.bind_eq_some_iff.mp e
  split at e
  case isFalse => cases e
  rename_i ht
  obtain ⟨⟨ss, M2⟩, e3, e⟩ := Option.bind_eq_some_iff.mp e
  obtain ⟨d, e4, e⟩ := Option.bind_eq_some_iff.mp e
  obtain ⟨ds, e5, e⟩ := Option.bind_eq_some_iff.mp e
  obtain ⟨⟨d', res⟩, e6, e⟩ := Option.map_eq_some_iff.mp e
  cases e
  refine ⟨tyP_of (rdb_of r1 i1 e2) ht, F, ι1, Γ, M1, ss, M2, w.next x1 r1, e3, fun vs ι2 H2 x2 r2 i2 => ?_⟩
  cases i1 with
  | @ptr a _ ha =>
    have ha2 := x2.at ha
    exact hr F ι2 H2 M2 a n vs d d' res ds Q r2 ha2 (r2.at_ n a d ha2 e4) (dats_ok e5 i2) e6 fun v' H3 x3 r3 i3 => k v' ι2 H3 (x1.trans (x2.trans x3)) r3 (.dat i3)
theorem pd_methW {g : D → List D → Option (D × D)} (pa : PlainAttrs T) (slot : Slot T name id) (hty : typeOf (.builtin id) = pure (.type "method_descriptor")) (hm : MtR X id r) (hr : RMW (ctx X) r g) (ho : PD X o fo) (ha : PDA X (e :: es) fr)
    (hbase : attributeBase o name X.env (eval o X.env) = eval o X.env := by rfl)
    (hfew : ((backTo cpos (starEach (e :: es) X.env)).all (fun x => !x.1) && (backToKw cpos (keywordEach [] X.env)).all (fun x => x.1.isSome)
      && decide ((e :: es).length + ([] : List Keyword).length + (if ([] : List Keyword).isEmpty then 0 else 1) < 30)) = true := by rfl)
    (hline : (apos.endLine == cpos.line) = true := by rfl) (hs : starEach (e :: es) X.env = (false, eval e X.env) :: starEach es X.env := by rfl) (hplain : (backTo cpos (starEach es X.env)).any (·.1) = false := by rfl) :
    PD X (.Call (.Attribute o name apos) (e :: es) [] cpos) (dMethW T g fo fr) :=
  PE.weak (pe_bmG pa slot hty hm ho ha hbase hfew hline hs hplain) fun _ _ _ => rd_methW hr
theorem pd_methW0 {g : D → List D → Option (D × D)} (pa : PlainAttrs T) (slot : Slot T name id) (hty : typeOf (.builtin id) = pure (.type "method_descriptor")) (hm : MtR X id r) (hr : RMW (ctx X) r g) (ho : PD X o fo)
    (hbase : attributeBase o name X.env (eval o X.env) = eval o X.env := by rfl) (hline : (apos.endLine == cpos.line) = true := by rfl) : PD X (.Call (.Attribute o name apos) [] [] cpos) (dMethW T g fo dNil) :=
  PE.weak (pe_bmG0 pa slot hty hm ho hbase hline) fun σ H Q q => by
    obtain ⟨F, ι, Γ, M, s, M', w, e, k⟩ := rd_methW (X := X) (fr := dNil) hr q
    refine ⟨F, ι, Γ, M, s, M', w, e, fun v ι1 H1 x1 r1 i1 => ?_⟩
    obtain ⟨h1, F', ι', Γ', M2, ss, M3, w2, e2, k2⟩ := k v ι1 H1 x1 r1 i1
    cases e2
    exact ⟨h1, k2 [] ι' H1 .refl w2.rep .nil⟩
/-- the object's new list -/
theorem Rep.putL {c : Ct} {ι : List Addr} {H : Hp} {M : Sto} {n : Nat} {a : Addr} {xs : List V} {ds : List D} (r : Rep c ι H M) (ha : ι[n]? = some a) (t : IsDs c ι H xs ds) : Ext ι H ι (upd H a (.lst xs)) ∧ Rep c ι (upd H a (.lst xs)) (M.set n (.list ds)) :=
  ⟨Ext.write ha, r.write ha (.lst upd_same (t.mono (Ext.write ha)))⟩
def wAppend : D → List D → Option (D × D)
  | .list xs, [d] => if xs.length < LIM then some (.list (xs ++ [d]), .none) else none
  | _, _ => none
theorem pd_append (ho : PD X o fo) (ha : PDA X [e] fr) (hbase : attributeBase o "append" X.env (eval o X.env) = eval o X.env := by rfl) (hline : (apos.endLine == cpos.line) = true := by rfl) (hs : starEach [e] X.env = (false, eval e X.env) :: starEach [] X.env := by rfl)
    (hfew : ((backTo cpos (starEach [e] X.env)).all (fun x => !x.1) && (backToKw cpos (keywordEach [] X.env)).all (fun x => x.1.isSome)
      && decide ([e].length + ([] : List Keyword).length + (if ([] : List Keyword).isEmpty then 0 else 1) < 30)) = true := by rfl) : PD X (.Call (.Attribute o "append" apos) [e] [] cpos) (dMethW "list" wAppend fo fr) :=
  pd_methW PySem.F.plainAttrs_list PySem.F.slot_list_append PySem.F.type_list_append mt_append (fun F ι H M a n xs d d' res ds Q r ha ow t e k => by
    unfold wAppend at e
    split at e
    · split at e
      · rename_i hl
        cases e
        cases ow with
        | @lst ys _ hp u =>
          cases t with
          | cons h t =>
            cases t
            obtain ⟨x1, r1⟩ := r.putL ha (u.append (.cons h .nil))
            exact ⟨a, ys, _, rfl, rfl, hp, by rw [u.length]; exact lim_lt (Nat.le_of_lt hl), k _ _ x1 r1 .non⟩
      · cases e
    · cases e) ho ha hbase hfew hline hs rfl
def wInsert : D → List D → Option (D × D)
  | .list xs, [.int i, d] => if xs.length < LIM ∧ 0 ≤ i ∧ i ≤ 1000000000 then some (.list (xs.take i.toNat ++ [d] ++ xs.drop i.toNat), .none) else none
  | _, _ => none
theorem pd_insert {e2 : Expr} (ho : PD X o fo) (ha : PDA X [e, e2] fr) (hbase : attributeBase o "insert" X.env (eval o X.env) = eval o X.env := by rfl) (hline : (apos.endLine == cpos.line) = true := by rfl) (hs : starEach [e, e2] X.env = (false, eval e X.env) :: starEach [e2] X.env := by rfl)
    (hfew : ((backTo cpos (starEach [e, e2] X.env)).all (fun x => !x.1) && (backToKw cpos (keywordEach [] X.env)).all (fun x => x.1.isSome)
      && decide ([e, e2].length + ([] : List Keyword).length + (if ([] : List Keyword).isEmpty then 0 else 1) < 30)) = true := by rfl) (hplain : (backTo cpos (starEach [e2] X.env)).any (·.1) = false := by rfl) : PD X (.Call (.Attribute o "insert" apos) [e, e2] [] cpos) (dMethW "list" wInsert fo fr) :=
  pd_methW PySem.F.plainAttrs_list PySem.F.slot_list_insert PySem.F.type_list_insert mt_insert (fun F ι H M a n xs d d' res ds Q r ha ow t e k => by
    unfold wInsert at e
    split at e
    · split at e
      · rename_i hl
        cases e
        cases ow with
        | @lst ys _ hp u =>
          cases t with
          | cons h t =>
            cases t with
            | cons h' t =>
              cases t
              cases h
              obtain ⟨x1, r1⟩ := r.putL ha (((u.take _).append (.cons h' .nil)).append (u.drop _))
              exact ⟨a, ys, _, _, rfl, rfl, hp, by rw [u.length]; exact lim_lt (Nat.le_of_lt hl.1), hl.2.1, by omega, k _ _ x1 r1 .non⟩
      · cases e
    · cases e) ho ha hbase hfew hline hs hplain
def mGet : D → List D → Option OR
  | .dict ((.none, .none) :: kvs), [kd, dd] => if keyOk kd = true then some (.dat ((dLook kvs kd).getD dd)) else none
  | _, _ => none
theorem pd_get2 {k : Nat} (hr : Room k X.A) {e2 : Expr} (ho : PD X o fo) (ha : PDA X [e, e2] fr) (hbase : attributeBase o "get" X.env (eval o X.env) = eval o X.env := by rfl) (hline : (apos.endLine == cpos.line) = true := by rfl) (hs : starEach [e, e2] X.env = (false, eval e X.env) :: starEach [e2] X.env := by rfl)
    (hfew : ((backTo cpos (starEach [e, e2] X.env)).all (fun x => !x.1) && (backToKw cpos (keywordEach [] X.env)).all (fun x => x.1.isSome)
      && decide ([e, e2].length + ([] : List Keyword).length + (if ([] : List Keyword).isEmpty then 0 else 1) < 30)) = true := by rfl) (hplain : (backTo cpos (starEach [e2] X.env)).any (·.1) = false := by rfl) : PD X (.Call (.Attribute o "get" apos) [e, e2] [] cpos) (dMeth "dict" mGet fo fr) :=
  pd_meth PySem.F.plainAttrs_dict PySem.F.slot_dict_get PySem.F.type_dict_get (mt_getN hr) (fun F ι H M x xs d ds o Q rp R Rs e k => by
    unfold mGet at e
    split at e
    · split at e
      · rename_i ok
        cases e
        cases Rs with
        | cons R1 Rs =>
          cases Rs with
          | cons R2 Rs =>
            cases Rs
            obtain ⟨q, rfl⟩ := key_ref ok R1
            obtain ⟨a, rfl, ha⟩ := R.dn
            exact ⟨F, ι, a, q, _, _, _, _, rfl, rfl, ha, R1, ok, R2, fun v hv => k.dat rp hv⟩
      · cases e
    · cases e) ho ha hbase hfew hline hs hplain

def dDictN : DE := fun _ M => some (.ptr M.length, M ++ [.dict [(.none, .none)]])
theorem pd_dictN {X : Cx} {pos : Pos} : PD X (.Dict [] [] pos) dDictN := PE.weak pe_dnewN fun σ H Q ⟨F, ι, Γ, M, s, M', w, e, k⟩ => by
  cases e
  intro c p hP hw hp
  obtain ⟨P, w', K, F0⟩ := c
  simp only at hP hw
  subst hP hw
  exact k _ (ι ++ [p]) _ (Ext.newP hp) (w.rep.newP hp (.dN (xs := []) upd_same .nil)) (.ptr (ptr_last w.rep.len))
end

def oSet : D → D → D → Option D
  | .list xs, .int k, v => (ixN xs.length k).map fun j => .list (xs.set j v)
  | .dict ((.none, .none) :: kvs), k, v => if keyOk k = true ∧ kvs.length < LIM then some (.dict ((.none, .none) :: dPut kvs k v)) else none
  | _, _, _ => none
def sSub (fv fo fi : DE) : DS := fun Γ M => (fv Γ M).bind fun pv => (fo Γ pv.2).bind fun po => (fi Γ po.2).bind fun pi => match po.1, pv.1, pi.1 with
  | .ptr n, .dat v, .dat i => (pi.2[n]?).bind fun d => (oSet d i v).map fun d' => (.nx, Γ, pi.2.set n d')
  | _, _, _ => none
def rSetAll (c : Ct) : TSet := fun o i v H Q => rSetL o i v H Q ∨ rSetN c o i v H Q
theorem set_all {X : Cx} {k : Nat} (hr : Room k X.A) : PSet X (rSetAll (ctx X)) := by
  intro pins s σ H o i v ov iv u Q I ro ri rv h
  rcases h with h | h
  · exact set_list pins s σ H o i v ov iv u Q I ro ri rv h
  · exact set_dn hr pins s σ H o i v ov iv u Q I ro ri rv h
theorem set_ok {c : Ct} {F ι : List Addr} {H : Hp} {M : Sto} {n : Nat} {a : Addr} {d d' i v : D} {xi xv : V} {Q : Hp → Prop} (r : Rep (c.at F) ι H M) (ha : ι[n]? = some a) (hd : M[n]? = some d) (hi : IsD (c.at F) ι H xi i) (hv : IsD (c.at F) ι H xv v) (e : oSet d i v = some d')
    (q : ∀ H', Ext ι H ι H' → Rep (c.at F) ι H' (M.set n d') → Q H') : rSetAll c (.ref a) xi xv H Q := by
  have ow := r.at_ n a d ha hd
  unfold oSet at e
  split at e
  · obtain ⟨j, e1, e⟩ := Option.map_eq_some_iff.mp e
    cases e
    cases hi
    cases ow with
    | @lst xs _ hp t =>
      obtain ⟨x1, r1⟩ := r.putL ha (t.set hv j)
      exact .inl ⟨a, xs, _, j, rfl, rfl, hp, by rw [t.length]; exact e1, q _ x1 r1⟩
  · split at e
    case isFalse => cases e
    rename_i ok
    cases e
    obtain ⟨b, rfl⟩ := key_ref ok.1 hi
    obtain ⟨a', ea, xs, hx, t⟩ := (Rdb.own ow).dn
    cases ea
    refine .inr ⟨F, ι, a, b, i, v, _, xs, rfl, rfl, hx, t, hi, ok.1, lim_lt (Nat.le_of_lt ok.2), hv, fun xs' t' => ?_⟩
    exact q _ (Ext.write ha) (r.write ha (.dN upd_same (t'.mono (Ext.write ha))))
  · cases e
section
variable {X : Cx} {o i e : Expr} {fo fi fe : DE} {pos tpos : Pos}
theorem pds_sub {k : Nat} (hr : Room k X.A) (hv : PD X e fe) (ho : PD X o fo) (hi : PD X i fi)
    (ha : ∀ v, assign (.Subscript o i tpos) X.env v = (do
      let ov ← holding [v] (eval o X.env)
      let iv ← holding [v, ov] (eval i X.env)
      standAt tpos
      holding [v, ov, iv] (setItem ov iv v)
      release [v, ov, iv] []) := by intro _; rfl)
    (hs : swapsWithSole [.Subscript o i tpos] e pos.line X.env = pure false := by rfl) (hw : swappedStores [.Subscript o i tpos] e X.env = pure none := by rfl)
    (h1 : (assignEach [.Subscript o i tpos] X.env).map (·.2) = [assign (.Subscript o i tpos) X.env] := by rfl) : PDS X (.Assign [.Subscript o i tpos] e pos) (sSub fe fo fi) :=
  PS.weak (ps_asg hv (pg_sub ho hi (set_all hr) ha) hs hw h1) fun E σ H ⟨F, ι, Γ, M, fl, Γ', M', w, e, k⟩ => by
    obtain ⟨⟨sv, M1⟩, e1, e⟩ := Option.bind_eq_some_iff.mp e
    obtain ⟨⟨so, M2⟩, e2, e⟩ := Option.bind_eq_some_iff.mp e
    obtain ⟨⟨si, M3⟩, e3, e⟩ := Option.bind_eq_some_iff.mp e
    refine ⟨F, ι, Γ, M, sv, M1, w, e1, fun v ι1 H1 x1 r1 i1 => ?_⟩
    refine ⟨F, ι1, Γ, M1, so, M2, w.next x1 r1, e2, fun u ι2 H2 x2 r2 i2 => ?_⟩
    refine ⟨F, ι2, Γ, M2, si, M3, (w.next x1 r1).next x2 r2, e3, fun y ι3 H3 x3 r3 i3 => ?_⟩
    simp only at e
    split at e
    case h_2 => cases e
    obtain ⟨d, e4, e⟩ := Option.bind_eq_some_iff.mp e
    obtain ⟨d', e5, e⟩ := Option.map_eq_some_iff.mp e
    cases e
    cases i2 with
    | @ptr a _ ha =>
      cases i1 with
      | dat i1 =>
        cases i3 with
        | dat i3 =>
          refine set_ok (c := ctx X) r3 (x3.at ha) e4 i3 ((i1.mono x2).mono x3) e5 fun H4 x4 r4 => ?_
          exact k ι3 σ H4 (x1.trans (x2.trans (x3.trans x4))) ((w.next x1 r1).next (x2.trans (x3.trans x4)) r4)
def rGetAll (c : Ct) : V → V → Hp → VK → Prop := fun x y H Q => rIxL c.K x y H Q ∨ rIxN c x y H Q
theorem get_all {k : Nat} (hr : Room k X.A) : PGet X (rGetAll (ctx X)) := by
  intro pins s σ H o i ov iv Q I ro ri h
  rcases h with h | h
  · obtain ⟨p, xs, i', z, rfl, rfl, hq, he, q⟩ := h
    cases ro
    obtain ⟨t, rfl⟩ := ri
    obtain ⟨its, r, pl, hz⟩ := I.list hq
    obtain ⟨j, h1, h2, h3, h4, h5⟩ := atI_get he
    obtain ⟨w, ew, rw'⟩ := r.get h2
    have hl := r.length
    have hn := line63
    have fin : EP X pins σ Q w s := ⟨z, H, I, rw', q⟩
    by_cases h0 : 0 ≤ i'
    · have hj : i'.toNat = j := by
        rw [seqIndex_of h0 h5] at h1
        exact Option.some.inj h1
      exact wpAny_getItem_list pl.isList h0 (by omega) (by rw [hj]; simpa using ew) fin
    · have hj : (i' + (its.toArray.size : Int)).toNat = j := by
        rw [seqIndex_neg (by omega) h4] at h1
        rw [List.size_toArray, ← hl]
        exact Option.some.inj h1
      exact wpAny_getItem_list_neg (Q := fun r s' => EP X pins σ Q r s') pl.isList (by omega) (by rw [List.size_toArray] <;> omega) (by omega) (by rw [hj]; simpa using ew) fin
  · obtain ⟨F, ι, a, q, kd, d, kvs, rfl, rfl, hd, hk, ok, e, hq⟩ := h
    cases ro
    cases ri
    obtain ⟨w', ht, hg⟩ := getItem_any (Q := EP X pins σ Q) hr I hd hk ok e fun v u s' I' rv hv => ⟨v, H, I', rv, hq v hv⟩
    exact thn hg fun r s' h => h.2
def PIpD (c : Ct) (t : TIp) (g : D → D → Option OR) : Prop := R2D c t g
def sAugSub (g : D → D → Option OR) (fo fi fe : DE) : DS := fun Γ M => (fo Γ M).bind fun po => (fi Γ po.2).bind fun pi => match po.1, pi.1 with
  | .ptr n, .dat i => (pi.2[n]?).bind fun d => match oIx d i with
    | some (.dat x) => (fe Γ pi.2).bind fun pe => match pe.1 with
      | .dat y => match g x y with
        | some (.dat z) => (pe.2[n]?).bind fun d2 => (oSet d2 i z).map fun d' => (.nx, Γ, pe.2.set n d')
        | _ => none
      | _ => none
    | _ => none
  | _, _ => none

theorem ip_all {op : Operator} {r : R2} (h : OpR X (inplaceOp op) r) : PIp X op r := fun pins s σ H x y v u Q I rx ry q => h pins s σ H x y v u Q I rx ry q
theorem pds_augSub {k : Nat} {op : Operator} {r : TIp} {g : D → D → Option OR} (hr : Room k X.A) (hp : PIp X op r) (hg : R2D (ctx X) r g) (ho : PD X o fo) (hi : PD X i fi) (he : PD X e fe)
    (ha : ∀ ov iv new, augStore i ov iv new = (do holding [new, ov, iv] (setItem ov iv new); release [new, ov, iv] []; pure .next) := by intros; rfl) : PDS X (.AugAssign (.Subscript o i tpos) op e pos) (sAugSub g fo fi fe) :=
  PS.weak (ps_augS ho hi (get_all hr) he hp (set_all hr) ha) fun E σ H ⟨F, ι, Γ, M, fl, Γ', M', w, e, k⟩ => by
    obtain ⟨⟨so, M2⟩, e2, e⟩ := Option.bind_eq_some_iff.mp e
    obtain ⟨⟨si, M3⟩, e3, e⟩ := Option.bind_eq_some_iff.mp e
    refine ⟨F, ι, Γ, M, so, M2, w, e2, fun u ι2 H2 x2 r2 i2 => ?_⟩
    refine ⟨F, ι2, Γ, M2, si, M3, w.next x2 r2, e3, fun y ι3 H3 x3 r3 i3 => ?_⟩
    simp only at e
    split at e
    case h_2 => cases e
    rename_i n di hq
    obtain ⟨d, e4, e⟩ := Option.bind_eq_some_iff.mp e
    split at e
    case h_2 => cases e
    rename_i dx e5
    obtain ⟨⟨se, M4⟩, e6, e⟩ := Option.bind_eq_some_iff.mp e
    simp only at e
    split at e
    case h_2 => cases e
    rename_i dy
    split at e
    case h_2 => cases e
    rename_i dz e7
    obtain ⟨d2, e8, e⟩ := Option.bind_eq_some_iff.mp e
    obtain ⟨d', e9, e⟩ := Option.map_eq_some_iff.mp e
    cases e
    cases i2 with
    | @ptr a n ha =>
      cases i3 with
      | dat i3 =>
        have ha3 := x3.at ha
        have ow := r3.at_ n a d ha3 e4
        have rest : ∀ v, IsD ((ctx X).at F) ι3 H3 v dx → rdE (ctx X) fe σ H3 fun y' H4 => r v y' H4 fun z H5 => rSetAll (ctx X) (.ref a) y z H5 fun H6 => E.nx σ H6 := fun v hv => by
          refine ⟨F, ι3, Γ, M3, _, M4, (w.next x2 r2).next x3 r3, e6, fun u4 ι4 H4 x4 r4 i4 => ?_⟩
          cases i4 with
          | dat i4 =>
            refine hg F ι4 H4 M4 v u4 dx dy _ _ r4 (.ofD (hv.mono x4)) (.ofD i4) e7 fun v5 ι5 H5 x5 r5 i5 => ?_
            cases i5 with
            | dat i5 =>
              refine set_ok (c := ctx X) r5 (x5.at (x4.at ha3)) e8 ((i3.mono x4).mono x5) i5 e9 fun H6 x6 r6 => ?_
              exact k ι5 σ H6 (x2.trans (x3.trans (x4.trans (x5.trans x6)))) (((w.next x2 r2)).next (x3.trans (x4.trans (x5.trans x6))) r6)
        unfold oIx at e5
        split at e5
        · obtain ⟨t, e10, e11⟩ := Option.map_eq_some_iff.mp e5
          cases e11
          cases i3
          cases ow with
          | @lst xs _ hp t =>
            obtain ⟨v, e', hv⟩ := atI_isD t e10
            exact .inl ⟨a, xs, _, v, rfl, rfl, .of hp, e', rest v hv⟩
        · cases ow
        · cases ow
        · split at e5
          case isFalse => cases e5
          rename_i ok
          obtain ⟨t, e10, e11⟩ := Option.map_eq_some_iff.mp e5
          cases e11
          obtain ⟨q, rfl⟩ := key_ref ok i3
          obtain ⟨a', ea, hd⟩ := (Rdb.own ow).dn
          cases ea
          exact .inr ⟨F, ι3, a, q, _, dx, _, rfl, rfl, hd, i3, ok, e10, fun v hv => rest v hv⟩
        · cases e5
def sAug (g : D → D → Option OR) (i : Nat) (fe : DE) : DS := fun Γ M => match Γ[i]? with
  | some (some s) => (fe Γ M).bind fun p => (val s p.2).bind fun d => (val p.1 p.2).bind fun e => (g d e).map fun o => (.nx, Γ.set i (some (o.out p.2).1), (o.out p.2).2)
  | _ => none
theorem pds_aug {op : Operator} {r : TIp} {g : D → D → Option OR} (n : Nat) {x : Str} {pos' : Pos} (hN : X.N.Nodup) (hp : PIp X op r) (hg : R2D (ctx X) r g) (he : PD X e fe) (hi : X.N[n]? = some x := by rfl) (hx : Loc X.env.scope x := by first | exact .inl rfl | exact .inr rfl) (hf : X.fn x = true ∨ X.env.scope.names.lookup x = some .local := by first | exact .inl rfl | exact .inr rfl | assumption) :
    PDS X (.AugAssign (.Name x pos') op e pos) (sAug g n fe) :=
  PS.weak (ps_aug hN hi hx he hp hf) fun E σ H ⟨F, ι, Γ, M, fl, Γ', M', w, e, k⟩ => by
    unfold sAug at e
    split at e
    case h_2 => cases e
    rename_i s hs
    obtain ⟨⟨s2, M2⟩, e2, e⟩ := Option.bind_eq_some_iff.mp e
    obtain ⟨d, e3, e⟩ := Option.bind_eq_some_iff.mp e
    obtain ⟨d', e4, e⟩ := Option.bind_eq_some_iff.mp e
    obtain ⟨o, e5, e⟩ := Option.map_eq_some_iff.mp e
    cases e
    obtain ⟨v, h1, h2⟩ := w.at_ _ _ hs
    refine ⟨v, h1, F, ι, Γ, M, s2, M2, w, e2, fun u ι2 H2 x2 r2 i2 => ?_⟩
    refine hg F ι2 H2 M2 v u d d' o _ r2 (rdb_of r2 (h2.mono x2) e3) (rdb_of r2 i2 e4) e5 fun v5 ι5 H5 x5 r5 i5 => ?_
    exact k ι5 _ H5 (x2.trans x5) ((w.next (x2.trans x5) r5).set i5 n)
def oIAdd : D → D → Option OR
  | .int i, .int j => some (.dat (.int (i + j)))
  | .str x, .str y => if x.length + y.length ≤ LIM then some (.dat (.str (x ++ y))) else none
  | _, _ => none
def rIAdd : R2 := fun x y H Q => rI0 (fun i j => .int (i + j)) x y H Q ∨ (∃ i j, x = .str i ∧ y = .str j ∧ i.length + j.length ≤ sizeLine ∧ Q (.str (i ++ j)) H)
theorem ip_iadd : PIp X .Add rIAdd := ip_all (iop_add.or iop_add_str)
theorem r2_iadd {c : Ct} : R2D c rIAdd oIAdd := fun F ι H M x y dx dy o Q rp rx ry e k => by
  unfold oIAdd at e
  split at e
  · cases e
    cases rx.int
    cases ry.int
    exact .inl ⟨_, _, rfl, rfl, k.dat rp (.int _)⟩
  · split at e
    · rename_i hl
      cases e
      cases rx.str
      cases ry.str
      exact .inr ⟨_, _, rfl, rfl, lim_le hl, k.dat rp (.str _)⟩
    · cases e
  · cases e
theorem ip_isub : PIp X .Sub (rI0 fun i j => .int (i - j)) := ip_all iop_sub
theorem r2_isub {c : Ct} : R2D c (rI0 fun i j => .int (i - j)) oSub := r2_I0
end

def tyName : D → String
  | .none => "NoneType"
  | .bool _ => "bool"
  | .int _ => "int"
  | .str _ => "str"
  | .list _ => "list"
  | .tuple _ => "tuple"
  | .dict _ => "dict"
def isi : String → D → Bool
  | "int", .int _ => true
  | "int", .bool _ => true
  | "bool", .bool _ => true
  | "str", .str _ => true
  | "tuple", .tuple _ => true
  | "list", .list _ => true
  | "dict", .dict _ => true
  | _, _ => false
def oIsi (T : String) : D → Option OR
  | .dict _ => none
  | d => some (.dat (.bool (isi T d)))
theorem tyX_of {c : Ct} {ι : List Addr} {H : Hp} {v : V} {d : D} (R : Rdb c ι H v d) (hd : ∀ k, d ≠ .dict k) : TyX c.K H v (.type (tyName d)) := by
  cases d with
  | none => cases R.non; exact .base .non
  | bool b => cases R.bl; exact .base (.bl b)
  | int i => cases R.int; exact .base (.int i)
  | str x => cases R.str; exact .base (.str x)
  | list ds => obtain ⟨a, xs, rfl, hp, _⟩ := R.lst; exact .base (.lst hp)
  | tuple ds =>
    obtain ⟨a, xs, rfl, hp, _⟩ := R.tup
    rcases hp with (hp | ⟨o, hp⟩) | ⟨o, its, n, h1, h2, _⟩
    · exact .base (.tup hp)
    · exact .fTuple hp
    · exact .kTuple h1 h2
  | dict k => exact absurd rfl (hd k)
section
variable {X : Cx} {e : Expr} {fe : DE} {p p2 pos : Pos}
theorem pd_isi (T : String) {x : Str} (hT : ∀ d, kitB (tyName d) T = some (isi T d)) (hg : Gl X "isinstance") (hm : X.mg "isinstance" = none) (hg2 : Gl X x) (hm2 : X.mg x = none) (hv : bootBuiltins x = some (.type T)) (he : PD X e fe) (hn : x ≠ "__name__" := by decide) (hd : (x == ("__debug__" : Str)) = false := by decide)
    (hs : starEach [e, .Name x p2] X.env = (false, eval e X.env) :: starEach [.Name x p2] X.env := by rfl) (hs2 : starEach [.Name x p2] X.env = (false, eval (.Name x p2) X.env) :: starEach [] X.env := by rfl) (hpl : (backTo pos (starEach [.Name x p2] X.env)).any (·.1) = false := by rfl) :
    PD X (.Call (.Name "isinstance" p) [e, .Name x p2] [] pos) (dUn (oIsi T) fe) :=
  PE.weak (pe_callB call_isi hg hm (by decide +kernel) (pa_cons he (pa_cons (pe_bltn (v := .ty T) hg2 hm2 hv rfl hn hd) pa_nil hs2) hs) (he := hs) (hpl := hpl)) fun σ H Q ⟨F, ι, Γ, M, s, M', w, e, k⟩ => by
    obtain ⟨⟨sa, M1⟩, e1, e⟩ := Option.bind_eq_some_iff.mp e
    obtain ⟨da, e3, e⟩ := Option.bind_eq_some_iff.mp e
    obtain ⟨o, e5, e⟩ := Option.map_eq_some_iff.mp e
    refine ⟨F, ι, Γ, M, sa, M1, w, e1, fun v ι1 H1 x1 r1 i1 => ?_⟩
    have R := rdb_of r1 i1 e3
    unfold oIsi at e5
    split at e5
    · cases e5
    · rename_i hnd
      cases e5
      cases e
      exact ⟨v, .ty T, _, _, _, rfl, .ty T, tyX_of (c := (ctx X).at F) R hnd, kit_ty (hT da), k _ ι1 H1 x1 r1 (.dat (.bl _))⟩
theorem kit_by {T : String} (h0 : kitB "NoneType" T = some (isi T .none)) (h1 : kitB "bool" T = some (isi T (.bool true))) (h2 : kitB "int" T = some (isi T (.int 0))) (h3 : kitB "str" T = some (isi T (.str "")))
    (h4 : kitB "list" T = some (isi T (.list []))) (h5 : kitB "tuple" T = some (isi T (.tuple []))) (h6 : kitB "dict" T = some (isi T (.dict []))) : ∀ d, kitB (tyName d) T = some (isi T d) := fun d => by
  cases d <;> simp only [tyName, h0, h1, h2, h3, h4, h5, h6] <;> (unfold isi; split <;> first | rfl | contradiction | (split <;> first | rfl | contradiction | simp_all))
theorem kit_tuple : ∀ d, kitB (tyName d) "tuple" = some (isi "tuple" d) := kit_by (by decide +kernel) (by decide +kernel) (by decide +kernel) (by decide +kernel) (by decide +kernel) (by decide +kernel) (by decide +kernel)
theorem kit_int : ∀ d, kitB (tyName d) "int" = some (isi "int" d) := kit_by (by decide +kernel) (by decide +kernel) (by decide +kernel) (by decide +kernel) (by decide +kernel) (by decide +kernel) (by decide +kernel)
theorem kit_bool : ∀ d, kitB (tyName d) "bool" = some (isi "bool" d) := kit_by (by decide +kernel) (by decide +kernel) (by decide +kernel) (by decide +kernel) (by decide +kernel) (by decide +kernel) (by decide +kernel)
theorem kit_str : ∀ d, kitB (tyName d) "str" = some (isi "str" d) := kit_by (by decide +kernel) (by decide +kernel) (by decide +kernel) (by decide +kernel) (by decide +kernel) (by decide +kernel) (by decide +kernel)
theorem kit_list : ∀ d, kitB (tyName d) "list" = some (isi "list" d) := kit_by (by decide +kernel) (by decide +kernel) (by decide +kernel) (by decide +kernel) (by decide +kernel) (by decide +kernel) (by decide +kernel)
end
end DL
namespace DL
open PySem PySem.Spec PyProof.Rows L2

def sortHd : D → Bool
  | .tuple (_ :: _) => true
  | _ => false
def sortHd2 : D → Bool
  | .none => false
  | .tuple _ => false
  | _ => true
def sortOk (ds : List D) : Bool := decide (∀ d ∈ ds, ∀ e ∈ ds, PySem.W.alike d e = true) && (ds.all sortHd || ds.all sortHd2) && ds.all (fun d => d.plain && decide (d.depth ≤ 60)) && decide (ds.length ≤ LIM)
def srt (ds : List D) : List D := ds.mergeSort (PySem.W.dataLe false id)
def seqOf : D → Option (List D)
  | .list ds => some ds
  | .dict ((.none, .none) :: kvs) => some (kvs.map (·.1))
  | .dict kvs => some (kvs.map (·.1))
  | _ => none
theorem sortOk_d {A : Around} {ds : List D} (hu : A.units + 64 < cLine) (h : sortOk ds = true) : PySem.W.AllAlike (ds.map id) ∧ PySem.W.Sortable (ds.map id) ∧ (∀ d ∈ ds, d.plain = true) ∧ ds.length ≤ LIM ∧ ∀ d ∈ ds, A.units + 2 + (id d).depth < cLine := by
  unfold sortOk at h
  simp only [Bool.and_eq_true, decide_eq_true_eq, Bool.or_eq_true, List.all_eq_true] at h
  obtain ⟨⟨⟨h1, h2⟩, h3⟩, h4⟩ := h
  rw [List.map_id]
  refine ⟨h1, ?_, fun d hd => (h3 d hd).1, h4, fun d hd => ?_⟩
  · rcases h2 with h2 | h2
    · refine .inl fun d hd => ?_
      have := h2 d hd
      unfold sortHd at this
      split at this
      · exact ⟨_, _, rfl⟩
      · cases this
    · refine .inr fun d hd => ?_
      have := h2 d hd
      cases d <;> simp_all [sortHd2]
  · have := (h3 d hd).2
    show A.units + 2 + d.depth < cLine
    omega
section
variable {X : Cx} {pins : List (Addr × Obj)} {σ : L2.St} {H : Hp} {s : Shared}
def RV (c : Ct) (ι : List Addr) (H : Hp) (v : Value) (d : D) : Prop := ∃ x : V, RelV x v ∧ IsD c ι H x d
theorem rv_each {c : Ct} {ι : List Addr} {H : Hp} : ∀ {xs : List V} {vs : List Value} {ds : List D}, Vals xs vs → IsDs c ι H xs ds → PySem.W.EachIs (RV c ι H) vs ds
  | _, _, _, .nil, .nil => .nil
  | _, _, _, .cons r rt, .cons h t => .cons ⟨_, r, h⟩ (rv_each rt t)
theorem each_rv {c : Ct} {ι : List Addr} {H : Hp} : ∀ {vs : List Value} {ds : List D}, PySem.W.EachIs (RV c ι H) vs ds → ∃ xs, Vals xs vs ∧ IsDs c ι H xs ds
  | _, _, .nil => ⟨[], .nil, .nil⟩
  | _, _, .cons ⟨x, r, h⟩ t => by
    obtain ⟨xs, r2, h2⟩ := each_rv t
    exact ⟨x :: xs, .cons r r2, .cons h h2⟩
theorem rv_reads {c : Ct} {ι : List Addr} (hK : c.K = X.K) (I : Inv X pins σ H s) {h' : Heap} (hk : ∀ b o, s.heap.get? b = some o → h'.get? b = some o) : ∀ {vs : List Value} {ds : List D}, (∀ d ∈ ds, d.plain = true) → PySem.W.EachIs (RV c ι H) vs ds → PySem.W.EachIs (fun v b => ∃ as, Reads h' v (id b) as) vs ds
  | _, _, _, .nil => .nil
  | _, _, hp, .cons ⟨x, r, h⟩ t => by
    obtain ⟨as, hr⟩ := Dp.reads I _ _ _ (hK ▸ h.dp _ _ (hp _ (List.mem_cons_self ..))) r
    exact .cons ⟨as, PyProof.Rows.Reads.keeps hk hr⟩ (rv_reads hK I hk (fun d hd => hp d (List.mem_cons_of_mem _ hd)) t)
theorem sort_core {ι : List Addr} {c : Ct} (hK : c.K = X.K) (hu : X.A.units + 64 < cLine) {u : Value} {ds : List D} (I : Inv X pins σ H s) (ok : sortOk ds = true)
    (hcol : ∀ R : List Value → Shared → Prop, (∀ (h' : Heap) (tk : Nat) (vs : List Value), (∀ b o, s.heap.get? b = some o → h'.get? b = some o) → PySem.W.EachIs (RV c ι H) vs ds → R vs { s with heap := h', toks := tk }) → wpAny (model X.prog X.w) X.A.in1 (collect u) R X.xe s)
    {Q : VK} (q : ∀ p ys, H p = none → IsDs c ι H ys (srt ds) → Q (.ref p) (upd H p (.lst ys))) : wpAny (model X.prog X.w) X.A (call (.builtin "sorted") [u]) (EP X pins σ Q) X.xe s := by
  obtain ⟨hal, hso, hpl, hL, hun⟩ := sortOk_d (A := X.A) hu ok
  refine Calls.call_function_entry PyProof.Rows.kind_sorted PyProof.Rows.plain_sorted PyProof.Rows.entry_sorted (PyProof.Rows.args_sorted1 _) ?_
  unfold Builtin.«sorted»
  refine wpAny_bind (m := checkCount "sorted" 1 1 _) (wpAny_pure ?_)
  refine wpAny_bind (hcol _ fun h' tk acc hk er => ?_)
  have hal2 : acc.length = ds.length := er.length
  have h16 : acc.length ≤ sizeLine := by rw [hal2]; exact lim_le hL
  have I1 : Inv X pins σ H { s with heap := h', toks := tk } := I.kept hk
  refine wpAny_bind (wpAny_newList ?_ h16)
  have hoL : (h'.push (seqObj "list" acc.toArray 0)).get? h'.objs.size = some (seqObj "list" acc.toArray 0) := Heap.get?_push_size _ rfl
  show wpAny _ _ _ _ _ { s with heap := h'.push (seqObj "list" acc.toArray 0), toks := tk }
  have hkeep : ∀ b o, s.heap.get? b = some o → (PySem.W.sortingHeap (h'.push (seqObj "list" acc.toArray 0)) h'.objs.size acc).get? b = some o := fun b o e => by
    have e1 := hk b o e
    have hb : b < h'.objs.size := Heap.lt_size e1
    exact PySem.W.sortingHeap_old (Nat.ne_of_lt hb) (Heap.get?_push_of_some _ e1)
  have er' := rv_reads hK I hkeep hpl er
  refine wpAny_bind (wpAny_holding (wpAny_call_entry PyProof.Rows.slot_list_sort ⟨_, hoL, rfl⟩ PyProof.Rows.entry_list_sort
    (PySem.W.list_sort_vals (κ := PySem.W.dataKind (PySem.W.sortingHeap (h'.push (seqObj "list" acc.toArray 0)) h'.objs.size acc) (ds.map id)) (s := { s with heap := h'.push (seqObj "list" acc.toArray 0), toks := tk }) hoL
      (PySem.W.SortsAt.data (s := { s with heap := PySem.W.sortingHeap (h'.push (seqObj "list" acc.toArray 0)) h'.objs.size acc, toks := tk }) (PySem.W.each_map (R := fun v d => ∃ as, Reads (PySem.W.sortingHeap (h'.push (seqObj "list" acc.toArray 0)) h'.objs.size acc) v d as) id er') hal hso (PySem.W.bound_map (A := X.A.in1.in1) hun)) h16 ⟨_, rfl, ?_⟩)
    (PyProof.Rows.args_list_sort _)))
  have eo := PySem.W.sortVals_data (R := RV c ι H) false er er' hal
  obtain ⟨ys, rv, hys⟩ := each_rv eo
  obtain ⟨e', he'⟩ := PyProof.Rows.sortedHeap_at (vs := acc) (out := (PySem.W.sortVals (PySem.W.dataKind (PySem.W.sortingHeap (h'.push (seqObj "list" acc.toArray 0)) h'.objs.size acc) (ds.map id)) false acc acc).toArray) hoL
  have hlen : ys.length ≤ sizeLine := by
    rw [hys.length]
    show (ds.mergeSort _).length ≤ _
    rw [List.length_mergeSort]
    exact lim_le hL
  refine wpAny_pure ⟨_, rfl, .ref h'.objs.size, upd H h'.objs.size (.lst ys), I1.laid (t' := tk) (fun b u e => ?_) (Nat.le_refl _)
    (show ObjOk X.prog X.w _ _ _ (.lst ys) from ⟨hlen, _, e', rv, he'⟩), rfl, q _ ys (I1.hok.fresh (Nat.le_refl _)) hys⟩
  have hb : b < h'.objs.size := Heap.lt_size e
  rw [PyProof.Rows.sortedHeap_old (Nat.ne_of_lt hb) (by rw [size_push']; exact Nat.lt_succ_of_lt hb)]
  exact Heap.get?_push_of_some _ e
def rSortA (c : Ct) : List V → Hp → VK → Prop := fun xs H Q => ∃ F ι v d ds, xs = [v] ∧ Rdb (c.at F) ι H v d ∧ seqOf d = some ds ∧ sortOk ds = true ∧ ∀ p ys, H p = none → IsDs (c.at F) ι H ys (srt ds) → Q (.ref p) (upd H p (.lst ys))
theorem isNs_keys {c : Ct} {ι : List Addr} {H : Hp} : ∀ {xs : List (NestedKey × Addr × Value)} {kvs : List (D × D)}, IsNs c ι H xs kvs → PySem.W.EachIs (RV c ι H) (xs.map fun x => Value.ref x.2.1) (kvs.map (·.1))
  | _, _, .nil => .nil
  | _, _, .cons (q := q) hk _ _ _ t => .cons ⟨V.ref q, rfl, hk⟩ (isNs_keys t)
theorem isKs_keys {c : Ct} {ι : List Addr} {H : Hp} : ∀ {xs : List (Key × V)} {kvs : List (D × D)}, IsKs c ι H xs kvs → IsDs c ι H (xs.map fun x => kV x.1) (kvs.map (·.1))
  | _, _, .nil => .nil
  | _, _, .cons (k := .inl i) _ t => .cons (.int i) (isKs_keys t)
  | _, _, .cons (k := .inr x) _ t => .cons (.str x) (isKs_keys t)
theorem seqOf_cases {d : D} {ds : List D} (h : seqOf d = some ds) : d = .list ds ∨ (∃ kvs, d = .dict ((.none, .none) :: kvs) ∧ ds = kvs.map (·.1)) ∨ ∃ kvs, d = .dict kvs ∧ isN kvs = false ∧ ds = kvs.map (·.1) := by
  unfold seqOf at h
  split at h
  · cases h; exact .inl rfl
  · cases h; exact .inr (.inl ⟨_, rfl, rfl⟩)
  · rename_i kvs hn
    cases h
    refine .inr (.inr ⟨_, rfl, ?_, rfl⟩)
    unfold isN
    split
    · exact absurd rfl (hn _)
    · rfl
  · cases h
theorem call_sortedA (hc : X.calm = true) (hu : X.A.units + 64 < cLine) : CallR X (.builtin "sorted") (rSortA (ctx X)) := by
  intro pins s σ H xs us Q I r h
  obtain ⟨F, ι, v, d, ds, rfl, R, hs, ok, q⟩ := h
  obtain ⟨u, rfl, rx⟩ := vals1 r
  refine sort_core (c := (ctx X).at F) (ι := ι) rfl hu I ok (fun R' hR => ?_) q
  rcases seqOf_cases hs with rfl | ⟨kvs, rfl, rfl⟩ | ⟨kvs, rfl, hn, rfl⟩
  · obtain ⟨a, xs, rfl, hp, t⟩ := R.lst
    cases rx
    obtain ⟨its, rv, p, hz⟩ := I.list (.of hp)
    refine PyProof.Rows.collect_list p.isList (hR _ _ _ (fun b o e => ?_) (rv_each rv t)) (by rw [← rv.length]; exact hz)
    exact Heap.get?_update_of_ne _ (fun q => by subst q; exact absurd (Heap.lt_size e) (Nat.lt_irrefl _)) (Heap.get?_push_of_some _ e)
  · obtain ⟨a, rfl, xs, ha, t⟩ := R.dn
    cases rx
    obtain ⟨⟨h1, h2, o, es, ep, h3, h4, h5, h6, h7⟩, _⟩ := (show ObjOk X.prog X.w H s.heap a (.ext (DN ((ctx X).at F) a xs)) from I.hok a _ ha)
    have l1 : es.size = xs.length := size_of_entries h6
    refine PySem.W.kdu_collect (kdl_raw h1 h4 h5) (I.ok.hd hc) h3 (by omega) fun h' tk acc hk it => ?_
    have ea : acc.toList = xs.map fun x => Value.ref x.2.1 := by
      have hl : acc.toList.length = xs.length := by rw [Array.length_toList, it.1]; exact l1
      apply List.ext_getElem?
      intro j
      rw [List.getElem?_map]
      cases hj : acc.toList[j]? with
      | none =>
        have h1 := List.getElem?_eq_none_iff.mp hj
        rw [List.getElem?_eq_none (by omega)]
        all_goals rfl
      | some v =>
        obtain ⟨en, hen, hv⟩ := it.2 j v (by rw [← Array.getElem?_toList]; exact hj)
        have qe := entry_at h6 j
        rw [hen] at qe
        cases hb : xs[j]? with
        | none =>
          rw [hb] at qe
          exact nomatch (show some en = none from qe)
        | some b =>
          rw [hb] at qe
          have e2 := Option.some.inj qe
          rw [hv, e2]
          all_goals rfl
    exact hR _ _ _ hk (by rw [ea]; exact isNs_keys t)
  · obtain ⟨a, xs, rfl, ha, t⟩ := R.dk hn
    cases rx
    obtain ⟨z, lo, vs, rk, hd⟩ := (show ObjOk X.prog X.w H s.heap a (.dK xs) from I.hok a _ ha)
    obtain ⟨ep, hat⟩ := hd.dictAt
    have hl : xs.length = vs.length := Paired.length rk
    refine PySem.W.kdu_collect (PySem.W.kdl_dict (knd := mixKind X.prog X.w) (kvs := vs) (ep := ep) lo) (I.ok.hd hc) hat (by rw [← hl]; exact z) fun h' tk acc hk hacc => ?_
    refine hR _ _ _ hk (rv_each (xs := xs.map fun x => kV x.1) ?_ (isKs_keys t))
    have el : acc.toList.length = acc.size := by simp
    refine vals_of_at (by rw [List.length_map, el, hacc.1, hl]) fun j x w h1 h2 => ?_
    obtain ⟨k, y, hky, hi⟩ := hacc.2 j w (by rw [← Array.getElem?_toList]; exact h2)
    have e1 : (xs.map (·.1))[j]? = some k := by
      rw [KV.keys rk, List.getElem?_map, hky] <;> rfl
    have e2 : (xs.map fun kv => kV kv.1)[j]? = some (kV k) := by
      have e3 : (xs.map fun kv => kV kv.1) = (xs.map (·.1)).map kV := by rw [List.map_map] <;> rfl
      rw [e3, List.getElem?_map, e1] <;> rfl
    rw [e2] at h1
    cases h1
    exact keyIs_rel hi
def bSorted : List D → Option OR
  | [d] => (seqOf d).bind fun ds => if sortOk ds then some (.new (.list (srt ds))) else none
  | _ => none
theorem pd_sorted {k : Nat} {e : Expr} {fr : DA} {p pos : Pos} (hr : Room k X.A) (hc : X.calm = true) (hg : Gl X "sorted") (hm : X.mg "sorted" = none) (ha : PDA X [e] fr) (he : starEach [e] X.env = (false, eval e X.env) :: starEach [] X.env := by rfl) : PD X (.Call (.Name "sorted" p) [e] [] pos) (dCB bSorted fr) :=
  pd_cb (id := "sorted") (fun F ι H M xs ds o Q rp R e k => by
    unfold bSorted at e
    split at e
    · obtain ⟨ds, e1, e2⟩ := Option.bind_eq_some_iff.mp e
      split at e2
      case isFalse => cases e2
      cases e2
      obtain ⟨v, rfl, R0⟩ := R.one
      exact ⟨F, ι, v, _, _, rfl, R0, e1, by assumption, fun p ys hp t => k.newL rp t hp⟩
    · cases e) (call_sortedA hc (by have := hr.un; omega)) hg hm (by decide +kernel) ha (he := he) (hpl := rfl)
end

def itZ (f g : DIt) : DIt := fun M i => match f M i, g M i with
  | some (some a), some (some b) => some (some (.tuple [a, b]))
  | some none, some _ => some none
  | some (some _), some none => some none
  | _, _ => none
/-- what one side of a zip gives; true: a list, false: a tuple -/
def zSide (s : SV) (M : Sto) : Option ((DIt × Nat) × Bool) := match s with
  | .dat (.list ds) => some ((itD ds, ds.length), true)
  | .dat (.tuple ds) => some ((itD ds, ds.length), false)
  | .ptr n => match M[n]? with
    | some (.list ds) => some ((itP n, ds.length), true)
    | _ => none
  | _ => none
def iZip (fr : DA) : DI := fun Γ M => (fr Γ M).bind fun p => match p.1 with
  | [a, b] => (zSide a p.2).bind fun x => (zSide b p.2).bind fun y => if x.2 = y.2 then some ((itZ x.1.1 y.1.1, min x.1.2 y.1.2), p.2) else none
  | _ => none
def SV2 (K : PySem.W.Frag) (b : Bool) (H : Hp) (a : Addr) (xs : List V) : Prop := if b then SqL K H a xs else SqT K H a xs
def LV (c : Ct) (ι0 : List Addr) (H0 : Hp) (b : Bool) (a : Addr) (it : DIt) : Prop := ∀ ι H M i o, Ext ι0 H0 ι H → Rep c ι H M → it M i = some o → ∃ ds xs, SV2 c.K b H a xs ∧ IsDs c ι H xs ds ∧ ds[i]? = o
theorem zSide_ok {c : Ct} {ι : List Addr} {H : Hp} {M : Sto} {s : SV} {x : (DIt × Nat) × Bool} {v : V} (r : Rep c ι H M) (i : IsS c ι H v s) (e : zSide s M = some x) : ∃ a, v = .ref a ∧ (∃ xs, SV2 c.K x.2 H a xs) ∧ LV c ι H x.2 a x.1.1 := by
  unfold zSide at e
  split at e
  · cases e
    cases i with
    | dat i =>
      obtain ⟨a, xs, rfl, hp, t⟩ := (Rdb.ofD i).lst
      refine ⟨a, rfl, ⟨xs, .of hp⟩, fun ι' H' M' j o x' r' e' => ?_⟩
      cases e'
      obtain ⟨a', xs', ea, hp', t'⟩ := (Rdb.ofD (i.mono x')).lst
      cases ea
      exact ⟨_, xs', .of hp', t', rfl⟩
  · cases e
    cases i with
    | dat i =>
      obtain ⟨a, xs, rfl, hp, t, _⟩ := (Rdb.ofD i).tup
      refine ⟨a, rfl, ⟨xs, hp⟩, fun ι' H' M' j o x' r' e' => ?_⟩
      cases e'
      obtain ⟨a', xs', ea, hp', t', _⟩ := (Rdb.ofD (i.mono x')).tup
      cases ea
      exact ⟨_, xs', hp', t', rfl⟩
  · split at e
    · rename_i hm
      cases e
      cases i with
      | ptr ha =>
        have ow := r.at_ _ _ _ ha hm
        cases ow with
        | lst hp t =>
          refine ⟨_, rfl, ⟨_, .of hp⟩, fun ι' H' M' j o x' r' e' => ?_⟩
          simp only [itP] at e'
          split at e'
          · rename_i hm'
            cases e'
            have ow' := r'.at_ _ _ _ (x'.at ha) hm'
            cases ow' with
            | lst hp' t' => exact ⟨_, _, .of hp', t', rfl⟩
          · cases e'
    · cases e
  · cases e
theorem itZ_cases {f g : DIt} {M : Sto} {i : Nat} {o : Option D} (e : itZ f g M i = some o) : ∃ p q, f M i = some p ∧ g M i = some q ∧ ((o = none ∧ (p = none ∨ q = none)) ∨ ∃ a b, p = some a ∧ q = some b ∧ o = some (.tuple [a, b])) := by
  unfold itZ at e
  split at e
  · cases e; exact ⟨_, _, by assumption, by assumption, .inr ⟨_, _, rfl, rfl, rfl⟩⟩
  · cases e; exact ⟨_, _, by assumption, by assumption, .inl ⟨rfl, .inl rfl⟩⟩
  · cases e; exact ⟨_, _, by assumption, by assumption, .inl ⟨rfl, .inr rfl⟩⟩
  · cases e
theorem jok_zip {c : Ct} {ι0 : List Addr} {H0 : Hp} {a b : Addr} {f g : DIt} (h1 : LV c ι0 H0 true a f) (h2 : LV c ι0 H0 true b g) : JOk c ι0 H0 (Itz c.K a b) (itZ f g) := fun ι H M i x r => by
  refine ⟨fun e => ?_, fun d e => ?_⟩
  · obtain ⟨p, q, e1, e2, e3⟩ := itZ_cases e
    obtain ⟨ds, xs, s1, t1, g1⟩ := h1 ι H M i p x r e1
    obtain ⟨es, ys, s2, t2, g2⟩ := h2 ι H M i q x r e2
    refine ⟨xs, ys, s1, s2, ?_⟩
    rcases e3 with ⟨_, e3 | e3⟩ | ⟨_, _, _, _, e3⟩
    · subst e3; exact .inl ((isDs_at t1).1 g1)
    · subst e3; exact .inr ((isDs_at t2).1 g2)
    · cases e3
  · obtain ⟨p, q, e1, e2, e3⟩ := itZ_cases e
    obtain ⟨ds, xs, s1, t1, g1⟩ := h1 ι H M i p x r e1
    obtain ⟨es, ys, s2, t2, g2⟩ := h2 ι H M i q x r e2
    rcases e3 with ⟨e3, _⟩ | ⟨da, db, rfl, rfl, e3⟩
    · cases e3
    cases e3
    obtain ⟨v1, k1, w1⟩ := (isDs_at t1).2 _ g1
    obtain ⟨v2, k2, w2⟩ := (isDs_at t2).2 _ g2
    refine ⟨⟨xs, ys, v1, v2, s1, s2, k1, k2⟩, fun y H' ⟨T, y1, y2, q1, q2, q3, q4, q5⟩ => ?_⟩
    subst q1
    subst q3
    have z1 := q4 xs s1
    have z2 := q5 ys s2
    rw [k1] at z1
    rw [k2] at z2
    cases z1
    cases z2
    have x1 : Ext ι H ι (upd H T (.tup [v1, v2])) := .new q2
    exact ⟨x1, r.new q2, .tup (.inl ⟨upd_same, r.nin q2⟩) (.cons (w1.mono x1) (.cons (w2.mono x1) .nil))⟩
theorem jok_zipT {c : Ct} {ι0 : List Addr} {H0 : Hp} {a b : Addr} {f g : DIt} (h1 : LV c ι0 H0 false a f) (h2 : LV c ι0 H0 false b g) : JOk c ι0 H0 (RZ.ItzT c.K a b) (itZ f g) := fun ι H M i x r => by
  refine ⟨fun e => ?_, fun d e => ?_⟩
  · obtain ⟨p, q, e1, e2, e3⟩ := itZ_cases e
    obtain ⟨ds, xs, s1, t1, g1⟩ := h1 ι H M i p x r e1
    obtain ⟨es, ys, s2, t2, g2⟩ := h2 ι H M i q x r e2
    refine ⟨xs, ys, s1, s2, ?_⟩
    rcases e3 with ⟨_, e3 | e3⟩ | ⟨_, _, _, _, e3⟩
    · subst e3; exact .inl ((isDs_at t1).1 g1)
    · subst e3; exact .inr ((isDs_at t2).1 g2)
    · cases e3
  · obtain ⟨p, q, e1, e2, e3⟩ := itZ_cases e
    obtain ⟨ds, xs, s1, t1, g1⟩ := h1 ι H M i p x r e1
    obtain ⟨es, ys, s2, t2, g2⟩ := h2 ι H M i q x r e2
    rcases e3 with ⟨e3, _⟩ | ⟨da, db, rfl, rfl, e3⟩
    · cases e3
    cases e3
    obtain ⟨v1, k1, w1⟩ := (isDs_at t1).2 _ g1
    obtain ⟨v2, k2, w2⟩ := (isDs_at t2).2 _ g2
    refine ⟨⟨xs, ys, v1, v2, s1, s2, k1, k2⟩, fun y H' ⟨T, y1, y2, q1, q2, q3, q4, q5⟩ => ?_⟩
    subst q1
    subst q3
    have z1 := q4 xs s1
    have z2 := q5 ys s2
    rw [k1] at z1
    rw [k2] at z2
    cases z1
    cases z2
    have x1 : Ext ι H ι (upd H T (.tup [v1, v2])) := .new q2
    exact ⟨x1, r.new q2, .tup (.inl ⟨upd_same, r.nin q2⟩) (.cons (w1.mono x1) (.cons (w2.mono x1) .nil))⟩
theorem pdi_zip {X : Cx} {e e2 : Expr} {fr : DA} {p pos tpos : Pos} {elts : List Expr} {kk : Nat} (hg : Gl X "zip") (hm : X.mg "zip" = none) (ha : PDA X [e, e2] fr)
    (hs : starEach [e, e2] X.env = (false, eval e X.env) :: starEach [e2] X.env := by rfl) (hpl : (backTo pos (starEach [e2] X.env)).any (·.1) = false := by rfl) :
    PDI X (.Tuple elts kk tpos) (.Call (.Name "zip" p) [e, e2] [] pos) (iZip fr) :=
  PI.weak (RZ.pi_zipA hg hm ha hs hpl) fun σ H R ⟨F, ι, Γ, M, it, M', w, e, k⟩ => by
    obtain ⟨⟨ss, M1⟩, e1, e⟩ := Option.bind_eq_some_iff.mp e
    refine ⟨F, ι, Γ, M, ss, M1, w, e1, fun vs ι1 H1 x1 r1 i1 => ?_⟩
    simp only at e
    split at e
    case h_2 => cases e
    obtain ⟨x, ex, e⟩ := Option.bind_eq_some_iff.mp e
    obtain ⟨y, ey, e⟩ := Option.bind_eq_some_iff.mp e
    split at e
    case isFalse => cases e
    rename_i hxy
    cases e
    cases i1 with
    | cons i1 t1 =>
      cases t1 with
      | cons i2 t2 =>
        cases t2
        obtain ⟨a, rfl, ⟨xs, hx⟩, lx⟩ := zSide_ok r1 i1 ex
        obtain ⟨b, rfl, ⟨ys, hy⟩, ly⟩ := zSide_ok r1 i2 ey
        refine ⟨a, b, xs, ys, rfl, ?_⟩
        rw [← hxy] at hy ly
        cases hb : x.2 with
        | true =>
          rw [hb] at hx hy lx ly
          exact .inl ⟨hx, hy, k _ ι1 H1 x1 r1 (jok_zip lx ly)⟩
        | false =>
          rw [hb] at hx hy lx ly
          exact .inr ⟨hx, hy, k _ ι1 H1 x1 r1 (jok_zipT lx ly)⟩
end DL
namespace DL
open PySem PySem.Spec PyProof.Rows L2

/-- the state that a law draws from, at its start -/
def state0 (ns : List Int) : D := .list [.list (ns.map PyData.int), .int 0, .int 0, .int 0]
def spStart (c : Ct) : Sp := fun vs H Q _ => ∃ F ι M a ns, vs = [.ref a] ∧ Rep (c.at F) ι H M ∧ SqL c.K H a (ns.map V.int) ∧
  ∀ b H', Ext ι H (ι ++ [b]) H' → Rep (c.at F) (ι ++ [b]) H' (M ++ [state0 ns]) → Q (.ref b) H'
section
variable {P : Program} {w : World} {K : PySem.W.Frag} {mg : Str → Option Value} {base : Heap} {params : Arguments} {scope : Scope} {f : Addr} {fd : FuncData} {p1 p2 p3 p4 p5 p6 p7 p8 : Pos} {j1 j2 j3 : Nat}
theorem start_ok {body : List Stmt} (F : FunD K "_law_start" "_law_start" params body scope [] [] f fd) (S : FnScope ["script"] ["script"] scope) (hg : ∀ cdv n, (envOfC "_law_start" scope n f cdv).kindOf "list" = some .globalImplicit) (hm : mg "list" = none)
    (hs : scope.names.lookup ("script" : Str) = some .local)
    (hb : body = [.Return (some (.List [.Call (.Name "list" p1) [.Name "script" p2] [] p3, .Constant (.int 0) j1 p4, .Constant (.int 0) j2 p5, .Constant (.int 0) j3 p6] p7)) p8]) : FnOk P w K mg base CX0 1 f fd ["script"] (spStart ⟨P, w, K, []⟩) := by
  subst hb
  refine F.ok S (fun vs H Q E h => ?_) (fun cdv A outer s H vs Q E hr h => ?_)
  · obtain ⟨_, _, _, _, _, rfl, _⟩ := h
    rfl
  · refine ⟨_, pss_one (ps_ret (pe_lst (pa_cons (pe_callTy call_list_of (hg cdv _) hm boot_list (pa_cons (pv 0 (hv := .inl hs)) pa_nil)) (pa_cons pe_int (pa_cons pe_int (pa_cons pe_int pa_nil)))))), ?_⟩
    obtain ⟨F, ι, M, a, ns, rfl, r, hq, q⟩ := h
    refine ⟨_, rfl, a, _, rfl, .inl hq, fun l hl => ?_⟩
    refine ⟨by show 4 ≤ sizeLine; decide, fun p hp => ?_⟩
    have r1 : Rep (Ct.at ⟨P, w, K, []⟩ F) ι (upd H l (.lst (ns.map V.int))) M := r.new hl
    have x1 : Ext ι H ι (upd H l (.lst (ns.map V.int))) := .new hl
    have d1 : IsD (Ct.at ⟨P, w, K, []⟩ F) ι (upd H l (.lst (ns.map V.int))) (.ref l) (.list (ns.map PyData.int)) := .lst upd_same (r.nin hl) (isDs_ints ns)
    have x2 : Ext ι (upd H l (.lst (ns.map V.int))) (ι ++ [p]) (upd (upd H l (.lst (ns.map V.int))) p (.lst [.ref l, .int 0, .int 0, .int 0])) := .newP hp
    exact q p _ (x1.trans x2) (r1.newP hp (.lst upd_same (.cons (d1.mono x2) (.cons (.int 0) (.cons (.int 0) (.cons (.int 0) .nil))))))
/-- the promise of a law's def -/
def spLaw (K : PySem.W.Frag) : Sp := fun vs H Q _ => ∃ (a : Addr) (ns : List Int), vs = [.ref a] ∧ ns.length ≤ 63 ∧ SqL K H a (ns.map V.int) ∧ ∀ H', Q (.bl true) H'
theorem law_ok {N : List Str} {k j : Nat} {qual x : Str} {body rest : List Stmt} {db : DS} {fs : Addr} {fds : FuncData} (F : FunD K x qual params body scope [] [] f fd) (S : FnScope N ["script"] scope)
    (hN : N[1]? = some ("state" : Str)) (hN0 : N[0]? = some ("script" : Str)) (hs : scope.names.lookup ("script" : Str) = some .local) (hst : scope.names.lookup ("state" : Str) = some .local)
    (hgl : ∀ cdv n, (envOfC qual scope n f cdv).kindOf "_law_start" = some .globalImplicit)
    (Fs : FnOk P w K mg base CX0 j fs fds ["script"] (spStart ⟨P, w, K, []⟩)) (hms : mg "_law_start" = some (.ref fs)) (hks : PySem.W.keepIn K (.ref fs) = true) (hbs : Binds K fds ["script"] []) (hj : j ≤ k)
    (hb : body = .Assign [.Name "state" p1] (.Call (.Name "_law_start" p2) [.Name "script" p3] [] p4) p5 :: rest)
    (hr : ∀ (cdv : Value) (A : Around) (outer : List Env) (s : Shared) (H : Hp) (E : XK), Room k (A.deeper (envOfC qual scope s.heap.objs.size f cdv)) → PDSs (cxOf CX0 P w K mg base N qual scope f cdv A outer s H E).nox rest db)
    (hlaw : ∀ ns : List Int, ns.length ≤ 63 → ∃ Γ' M', db (none :: some (.ptr 0) :: List.replicate (N.length - 2) none) [state0 ns] = some (.rt (.dat (.bool true)), Γ', M')) :
    FnOk P w K mg base CX0 (k + 1) f fd ["script"] (spLaw K) := by
  subst hb
  refine F.ok S (fun vs H Q E h => ?_) (fun cdv A outer s H vs Q E hroom h => ?_)
  · obtain ⟨_, _, rfl, _⟩ := h
    rfl
  · refine ⟨_, pss_cons (ps_set (i := 1) S.nd hN (.inl hst) (pe_call (dvs := []) (ds := []) (E := E0) Fs (hroom.mono hj) (hgl cdv _) hms hks hbs .nil pass0 (pa_cons (pv 0 (hN := hN0) (hv := .inl hs)) pa_nil))) (PSs.nox (hr cdv A outer s H E hroom)), ?_⟩
    obtain ⟨a, ns, rfl, hl, hq, q⟩ := h
    obtain ⟨Γ', M', e⟩ := hlaw ns hl
    refine ⟨_, rfl, [], [], [], a, ns, rfl, ⟨rfl, .nil, fun a h => (nomatch h), fun n a d h => (nomatch h)⟩, hq, fun b H' x r => ?_⟩
    refine ⟨[], [b], _, [state0 ns], _, Γ', M', ⟨r, ?_, fun i s' hs' => ?_⟩, e, fun ι' σ' H2 x2 w2 => ?_⟩
    · have h1 := List.getElem?_eq_some_iff.mp hN
      have := h1.1
      show ((L2.start N [V.ref a]).set 1 _).length = _
      rw [List.length_set]
      simp [L2.start]
      omega
    · cases i with
      | zero => cases hs'
      | succ i =>
        cases i with
        | zero =>
          have : s' = .ptr 0 := (Option.some.inj (Option.some.inj hs')).symm
          subst this
          refine ⟨.ref b, ?_, .ptr rfl⟩
          have h1 := List.getElem?_eq_some_iff.mp hN
          have := h1.1
          show ((L2.start N [V.ref a]).set 1 (some (V.ref b)))[1]? = _
          rw [List.getElem?_set_self]
          simp [L2.start]
          omega
        | succ i =>
          have hs2 : (List.replicate (N.length - 2) (none : Option SV))[i]? = some (some s') := hs'
          have := List.mem_of_getElem? hs2
          rw [List.mem_replicate] at this
          cases this.2
    · intro v iv
      cases iv with
      | dat iv =>
        cases iv
        exact q H2
end
/-- a def that never answers -/
theorem pdss_none {X : Cx} {st : List Stmt} : PDSs X st (fun _ _ => none) := ⟨fun _ _ _ _ _ _ h => by
  obtain ⟨_, _, _, _, _, _, _, _, e, _⟩ := h
  cases e⟩
theorem pds_frzAsg {X : Cx} {st : Stmt} {i : Nat} {f : DE} (h : PDS X st (sAsg i f)) : PDS X st (sAsg i (dFrz f)) :=
  PS.weak h fun E σ H ⟨F, ι, Γ, M, fl, Γ', M', w, e, k⟩ => by
    obtain ⟨⟨s, M1⟩, e1, e⟩ := Option.bind_eq_some_iff.mp e
    cases e
    obtain ⟨⟨s0, M0⟩, e0, e1⟩ := Option.bind_eq_some_iff.mp e1
    have e2 : sAsg i f Γ M = some (.nx, Γ.set i (some s0), M0) := by unfold sAsg; rw [e0]; rfl
    cases s0 with
    | dat d =>
      cases e1
      exact ⟨F, ι, Γ, M, _, _, _, w, e2, k⟩
    | ptr n =>
      simp only at e1
      split at e1
      case isFalse => cases e1
      rename_i hc
      obtain ⟨d, hd, e1⟩ := Option.map_eq_some_iff.mp e1
      cases e1
      refine ⟨F, ι, Γ, M, _, _, _, w, e2, fun ι' σ' H' x w' => ?_⟩
      have hn : ι.length ≤ n := by rw [w.rep.len]; exact hc.1
      obtain ⟨a, ha⟩ := rep_ptr w'.rep hd
      obtain ⟨ι2, x2, r2, i2⟩ := Rep.frz (v := .ref a) w'.rep x hn hc.2 hd (.ptr ha)
      have hι : ι' = ι'.dropLast ++ [a] := getLast_split (by rw [w'.rep.len]; exact hc.2) ha
      have hM : M0 = M0.dropLast ++ [d] := getLast_split hc.2 hd
      have rr := w'.rep
      rw [hι, hM] at rr
      obtain ⟨r1, i1⟩ := rr.drop
      have x3 : Ext ι H ι'.dropLast H' := by
        obtain ⟨l, e, hl⟩ := x.pre
        have hln : l ≠ [] := fun z => by
          rw [z, List.append_nil] at e
          have h3 := (List.getElem?_eq_some_iff.mp ha).1
          rw [e] at h3
          omega
        exact ⟨⟨l.dropLast, by rw [e, List.dropLast_append_of_ne_nil hln], fun b hb => hl b ((List.dropLast_sublist l).subset hb)⟩, x.keep, x.dom⟩
      have hs : ∀ b, b ∈ F ∨ b ∈ ι'.dropLast → b ∈ F ∨ b ∈ ι' := fun b h => h.imp id fun h => (List.dropLast_sublist ι').subset h
      refine k ι'.dropLast σ' H' x3 ⟨r1, by rw [w'.len, List.length_set, List.length_set], fun j s hj => ?_⟩
      by_cases hij : i = j
      · subst hij
        have hlt : i < Γ.length := by
          have := (List.getElem?_eq_some_iff.mp hj).1
          rwa [List.length_set] at this
        rw [List.getElem?_set_self hlt] at hj
        cases hj
        obtain ⟨v, h1, h2⟩ := w'.at_ i (.ptr n) (by rw [List.getElem?_set_self hlt])
        cases h2 with
        | ptr h2 =>
          rw [ha] at h2
          cases h2
          exact ⟨_, h1, .dat i1⟩
      · rw [List.getElem?_set_ne hij] at hj
        obtain ⟨v, h1, h2⟩ := w'.at_ j s (by rw [List.getElem?_set_ne hij]; exact hj)
        refine ⟨v, h1, ?_⟩
        cases h2 with
        | dat h2 => exact .dat (h2.sub (c := ctx X) hs)
        | @ptr b m h2 =>
          obtain ⟨v0, _, h3⟩ := w.at_ j _ hj
          cases h3 with
          | ptr h3 =>
            have := x.at h3
            rw [h2] at this
            cases this
            exact .ptr (x3.at h3)
section
variable {X : Cx} {elt tg iter : Expr} {ifs : List Expr} {scope : Scope} {pos : Pos} {fi : DI} {ts ow : List Nat} {g : DG} {tt : DT} {te : DE}
theorem pd_compq (own : List (Str × Nat)) (hc : X.calm = true) (hN : X.N.Nodup) (hi : PDI X tg iter fi) (ok : BlkOk X.N X.env.scope scope own)
    (hg : ∀ (s : Shared) (H : Hp) (C : Addr) (cl : List (Str × Addr)) (fp : List Addr), PDG (X.blk s H scope (compEnvC scope cl C X.env) fp) tg ts g) (ht : ∀ (s : Shared) (H : Hp) (C : Addr) (cl : List (Str × Addr)) (fp : List Addr), PDTs (X.blk s H scope (compEnvC scope cl C X.env) fp) ifs tt)
    (he : ∀ (s : Shared) (H : Hp) (C : Addr) (cl : List (Str × Addr)) (fp : List Addr), PD (X.blk s H scope (compEnvC scope cl C X.env) fp) elt te) (hw : own.map (·.2) = ow := by rfl) (ho : ∀ k ∈ ts, k ∈ ow := by decide) (hs : ∀ x, foldedSetIterable iter X.env x = pure x := by intro _; rfl) :
    PD X (.ListComp elt [⟨tg, iter, ifs, 0⟩] scope pos) (dComp fi g ow tt te) := by
  subst hw
  exact pd_comp hc hN hi ok hg ht he ho hs
theorem pds_setCompq (own : List (Str × Nat)) {i : Nat} {y : Str} {py spos : Pos} (hc : X.calm = true) (hN : X.N.Nodup) (hy : X.N[i]? = some y) (hyl : X.env.scope.names.lookup y = some .local)
    (hsw : swapsWith (.ListComp elt [⟨tg, iter, ifs, 0⟩] scope pos) (some (.Name y py)) spos.line X.env = pure true) (hi : PDI X tg iter fi) (ok : BlkOk X.N X.env.scope scope own)
    (hg : ∀ (s : Shared) (H : Hp) (C : Addr) (cl : List (Str × Addr)) (fp : List Addr), PDG (X.blk s H scope (compEnvC scope cl C X.env) fp) tg ts g) (ht : ∀ (s : Shared) (H : Hp) (C : Addr) (cl : List (Str × Addr)) (fp : List Addr), PDTs (X.blk s H scope (compEnvC scope cl C X.env) fp) ifs tt)
    (he : ∀ (s : Shared) (H : Hp) (C : Addr) (cl : List (Str × Addr)) (fp : List Addr), PD (X.blk s H scope (compEnvC scope cl C X.env) fp) elt te) (hw : own.map (·.2) = ow := by rfl) (ho : ∀ k ∈ ts, k ∈ ow := by decide) (hs : ∀ x, foldedSetIterable iter X.env x = pure x := by intro _; rfl) :
    PDS X (.Assign [.Name y py] (.ListComp elt [⟨tg, iter, ifs, 0⟩] scope pos) spos) (sAsg i (dComp fi g ow tt te)) := by
  subst hw
  exact pds_setComp hc hN hy hyl hsw hi ok hg ht he ho hs
end
end DL
namespace DL
open PySem PySem.Spec PyProof.Rows L2

section
variable {i j : Int} {d e : D} {Γ : Ga} {M : Sto}
@[simp] theorem oAdd_i : oAdd (.int i) (.int j) = some (.dat (.int (i + j))) := rfl
@[simp] theorem oSub_i : oSub (.int i) (.int j) = some (.dat (.int (i - j))) := rfl
@[simp] theorem oIAdd_i : oIAdd (.int i) (.int j) = some (.dat (.int (i + j))) := rfl
@[simp] theorem oNeg_i : oNeg (.int i) = some (.dat (.int (-i))) := rfl
@[simp] theorem oMul_i (h : okMul i j = true) : oMul (.int i) (.int j) = some (.dat (.int (i * j))) := by show (if okMul i j = true then _ else _) = _; rw [if_pos h]
@[simp] theorem oDiv_i (h : j ≠ 0) (h2 : j.natAbs < 1073741824) : oDiv (.int i) (.int j) = some (.dat (.int (i.fdiv j))) := by
  unfold oDiv gI
  simp [h, h2]
@[simp] theorem oMod_i (h : j ≠ 0) : oMod (.int i) (.int j) = some (.dat (.int (i.fmod j))) := by
  unfold oMod gI
  simp [h]
theorem okCmp_i : okCmp (.int i) (.int j) = true := by
  unfold okCmp
  simp [PySem.W.alike, PyData.plain, PyData.depth]
@[simp] theorem oLt_i : oLt (.int i) (.int j) = some (.dat (.bool (decide (i < j)))) := by unfold oLt; rw [if_pos okCmp_i, PySem.W.dataLt_int]
@[simp] theorem oGt_i : oGt (.int i) (.int j) = some (.dat (.bool (decide (j < i)))) := by unfold oGt; rw [if_pos okCmp_i, PySem.W.dataLt_int]
@[simp] theorem oLe_i : oLe (.int i) (.int j) = some (.dat (.bool (decide (i ≤ j)))) := by unfold oLe; rw [if_pos okCmp_i, PySem.W.dataLt_int, PySem.W.not_lt_int]
@[simp] theorem oGe_i : oGe (.int i) (.int j) = some (.dat (.bool (decide (j ≤ i)))) := by unfold oGe; rw [if_pos okCmp_i, PySem.W.dataLt_int, PySem.W.not_lt_int]
theorem okEq_i (h : d.plain = true) : okEq d (.int j) = true := by
  unfold okEq
  simp [PyData.plain, PyData.depth, h]
@[simp] theorem oEq_i : oEq (.int i) (.int j) = some (.dat (.bool (i == j))) := by unfold oEq; rw [if_pos (okEq_i rfl)]; rfl
@[simp] theorem oNe_i : oNe (.int i) (.int j) = some (.dat (.bool (i != j))) := by unfold oNe; rw [if_pos (okEq_i rfl)]; rfl
end
/-- the drawing def that every law has -/
def g_draw : FnT := dFun 5
  (sSeq (sSub (dBin oAdd (dBin oIx (dVar 0) (dC (.int 3))) (dC (.int 1))) (dVar 0) (dC (.int 3)))
  (sSeq (sIf (tVal (dBin oGt (dBin oIx (dVar 0) (dC (.int 2))) (dC (.int 0)))) (sSeq (sAsg 2 (dBin oMod (dCB bInt (dCons (dBin oIx (dVar 0) (dC (.int 2))) dNil)) (dVar 1)))
  (sSeq (sSub (dBin oDiv (dBin oIx (dVar 0) (dC (.int 2))) (dVar 1)) (dVar 0) (dC (.int 2)))
  (sRet (dVar 2)))) sNil)
  (sSeq (sAsg 3 (dC (.int 0)))
  (sSeq (sIf (tVal (dBin oGt (dCB bLen (dCons (dBin oIx (dVar 0) (dC (.int 0))) dNil)) (dC (.int 0)))) (sAsg 3 (dCB bAbs (dCons (dBin oIx (dBin oIx (dVar 0) (dC (.int 0))) (dBin oMod (dCB bInt (dCons (dBin oIx (dVar 0) (dC (.int 1))) dNil)) (dCB bLen (dCons (dBin oIx (dVar 0) (dC (.int 0))) dNil)))) dNil))) sNil)
  (sSeq (sSub (dBin oAdd (dBin oIx (dVar 0) (dC (.int 1))) (dC (.int 1))) (dVar 0) (dC (.int 1)))
  (sSeq (sIf (tVal (dBin oGe (dVar 3) (dBin oPow (dC (.int 10)) (dC (.int 18))))) (sSeq (sSub (dBin oDiv (dVar 3) (dVar 1)) (dVar 0) (dC (.int 2)))
  (sRet (dBin oMod (dCB bInt (dCons (dVar 3) dNil)) (dVar 1)))) sNil)
  (sSeq (sAsg 4 (dBin oMod (dCB bInt (dCons (dBin oAdd (dBin oMul (dBin oAdd (dVar 3) (dC (.int 1))) (dC (.int 48271))) (dBin oMul (dBin oIx (dVar 0) (dC (.int 3))) (dC (.int 69621)))) dNil)) (dC (.int 2147483647))))
  (sSeq (sAsg 4 (dBin oMod (dCB bInt (dCons (dBin oAdd (dBin oAdd (dBin oMul (dVar 4) (dC (.int 16807))) (dBin oDiv (dVar 3) (dC (.int 97)))) (dBin oIx (dVar 0) (dC (.int 3)))) dNil)) (dC (.int 2147483629))))
  (sRet (dBin oMod (dBin oDiv (dVar 4) (dC (.int 11))) (dVar 1)))))))))))

def stD (ns : List Int) (a r c : Int) : D := .list [.list (ns.map .int), .int a, .int r, .int c]
/-- a state to draw from -/
def IsSt (d : D) : Prop := ∃ ns a r c, d = stD ns a r c
theorem isSt0 (ns : List Int) : IsSt (state0 ns) := ⟨ns, 0, 0, 0, rfl⟩
section
variable {N k : Nat} {body f g : DS} {ss : List SV} {fa fb fe fv fo fi : DE} {fr : DA} {ft ta tb : DT} {i : Nat} {d : D} {Γ : Ga} {M : Sto} {gg : D → D → Option OR} {g1 : D → Option OR} {gl : List D → Option OR} {s : SV} {x : Int}
@[simp] theorem dFun_e : dFun N body ss M = (body (ss.map some ++ List.replicate (N - ss.length) none) M).bind (fnOut M.length) := rfl
def sqk (g : DS) (r : Fl × Ga × Sto) : Option (Fl × Ga × Sto) := match r.1 with
  | .nx => g r.2.1 r.2.2
  | fl => some (fl, r.2.1, r.2.2)
@[simp] theorem sSeq_e : sSeq f g Γ M = (f Γ M).bind (sqk g) := rfl
@[simp] theorem sqk_nx : sqk g (.nx, Γ, M) = g Γ M := rfl
@[simp] theorem sqk_rt : sqk g (.rt s, Γ, M) = some (.rt s, Γ, M) := rfl
@[simp] theorem sqk_bk : sqk g (.bk, Γ, M) = some (.bk, Γ, M) := rfl
@[simp] theorem sqk_ct : sqk g (.ct, Γ, M) = some (.ct, Γ, M) := rfl
@[simp] theorem sAsg_e : sAsg i fe Γ M = (fe Γ M).bind fun p => some (.nx, Γ.set i (some p.1), p.2) := rfl
@[simp] theorem sRet_e : sRet fe Γ M = (fe Γ M).bind fun p => some (.rt p.1, Γ, p.2) := rfl
@[simp] theorem sNil_e : sNil Γ M = some (.nx, Γ, M) := rfl
@[simp] theorem sIf_e : sIf ft f g Γ M = (ft Γ M).bind fun p => if p.1 = true then f Γ p.2 else g Γ p.2 := rfl
@[simp] theorem sSub_e : sSub fv fo fi Γ M = (fv Γ M).bind fun pv => (fo Γ pv.2).bind fun po => (fi Γ po.2).bind fun pi => match po.1, pv.1, pi.1 with
  | .ptr n, .dat v, .dat i => (pi.2[n]?).bind fun d => (oSet d i v).map fun d' => (.nx, Γ, pi.2.set n d')
  | _, _, _ => none := rfl
@[simp] theorem dC_e : dC d Γ M = some (.dat d, M) := rfl
@[simp] theorem dVar_e : dVar i Γ M = match Γ[i]? with
  | some (some s) => some (s, M)
  | _ => none := rfl
@[simp] theorem dBin_e : dBin gg fa fb Γ M = (fa Γ M).bind fun p => (fb Γ p.2).bind fun q => (val p.1 q.2).bind fun d => (val q.1 q.2).bind fun e => (gg d e).map fun o => o.out q.2 := rfl
@[simp] theorem dUn_e : dUn g1 fa Γ M = (fa Γ M).bind fun p => (val p.1 p.2).bind fun d => (g1 d).map fun o => o.out p.2 := rfl
@[simp] theorem dNil_e : dNil Γ M = some ([], M) := rfl
@[simp] theorem dCons_e : dCons fa fr Γ M = (fa Γ M).bind fun p => (fr Γ p.2).bind fun q => some (p.1 :: q.1, q.2) := rfl
@[simp] theorem dCB_e : dCB gl fr Γ M = (fr Γ M).bind fun p => (vals p.1 p.2).bind fun ds => (gl ds).map fun o => o.out p.2 := rfl
@[simp] theorem tNot_e : tNot_ ta Γ M = (ta Γ M).bind fun p => some (!p.1, p.2) := rfl
@[simp] theorem tAnd_e : tAnd_ ta tb Γ M = (ta Γ M).bind fun p => if p.1 = true then tb Γ p.2 else some (false, p.2) := rfl
@[simp] theorem tOr_e : tOr_ ta tb Γ M = (ta Γ M).bind fun p => if p.1 = true then some (true, p.2) else tb Γ p.2 := rfl
@[simp] theorem tTru_e : tTru fa Γ M = (fa Γ M).bind fun p => (val p.1 p.2).bind fun d => (truD d).map fun b => (b, p.2) := rfl
@[simp] theorem tVal_e : tVal fa Γ M = (fa Γ M).bind fun p => match p.1 with
  | .dat (.bool b) => some (b, p.2)
  | _ => none := rfl
@[simp] theorem val_dat : val (.dat d) M = some d := rfl
@[simp] theorem val_ptr : val (.ptr i) M = M[i]? := rfl
@[simp] theorem vals_nil : vals [] M = some [] := rfl
@[simp] theorem vals_cons : vals (s :: ss) M = (val s M).bind fun d => (vals ss M).map (d :: ·) := rfl
@[simp] theorem dats_nil : dats [] = some [] := rfl
@[simp] theorem dats_dat : dats (.dat d :: ss) = (dats ss).map (d :: ·) := rfl
@[simp] theorem out_dat : OR.out (.dat d) M = (.dat d, M) := rfl
@[simp] theorem out_new : OR.out (.new d) M = (.ptr M.length, M ++ [d]) := rfl
@[simp] theorem fnOut_dat : fnOut k (.rt (.dat d), Γ, M) = some (d, M.take k) := rfl
@[simp] theorem fnOut_nx : fnOut k (.nx, Γ, M) = some (.none, M.take k) := rfl
@[simp] theorem fnOut_ptr : fnOut k (.rt (.ptr i), Γ, M) = if k ≤ i then (M[i]?).map fun d => (d, M.take k) else none := rfl
@[simp] theorem oIx_list {xs : List D} : oIx (.list xs) (.int x) = (atI xs x).map .dat := rfl
@[simp] theorem oIx_tup {xs : List D} : oIx (.tuple xs) (.int x) = (atI xs x).map .dat := rfl
@[simp] theorem bInt_i : bInt [.int x] = some (.dat (.int x)) := rfl
@[simp] theorem bAbs_i : bAbs [.int x] = some (.dat (.int (if x < 0 then -x else x))) := rfl
@[simp] theorem bLen_list {xs : List D} : bLen [.list xs] = some (.dat (.int xs.length)) := rfl
@[simp] theorem bLen_tup {xs : List D} : bLen [.tuple xs] = some (.dat (.int xs.length)) := rfl
@[simp] theorem ixN_nn {n : Nat} (h : 0 ≤ x) (h2 : x < n) : ixN n x = some x.toNat := by
  unfold ixN
  rw [if_pos h, if_pos h2]
@[simp] theorem atI_nn {xs : List D} (h : 0 ≤ x) : atI xs x = xs[x.toNat]? := by
  unfold atI
  by_cases h2 : x < xs.length
  · rw [ixN_nn h h2]; rfl
  · unfold ixN
    rw [if_pos h, if_neg h2, List.getElem?_eq_none (by omega)]; rfl
@[simp] theorem oSet_list {xs : List D} : oSet (.list xs) (.int x) d = (ixN xs.length x).map fun j => .list (xs.set j d) := rfl
@[simp] theorem oPow_10_18 : oPow (.int 10) (.int 18) = some (.dat (.int 1000000000000000000)) := rfl
@[simp] theorem okMul_r {i j : Int} (h : -(2 ^ 64) < j) (h2 : j < 2 ^ 64) : okMul i j = true := by
  unfold okMul
  rw [decide_eq_true (show -(2 ^ 64) < j ∧ j < 2 ^ 64 from ⟨h, h2⟩), Bool.or_true]
theorem atI_nat {xs : List D} {n : Nat} {v : D} (h : xs[n]? = some v) : atI xs (n : Int) = some v := by
  have := (List.getElem?_eq_some_iff.mp h).1
  unfold atI ixN
  rw [if_pos (by omega), if_pos (by omega)]
  exact h
end
theorem fmod_rng {a m : Int} (h : 0 < m) : 0 ≤ a.fmod m ∧ a.fmod m < m := ⟨Int.fmod_nonneg_of_pos a h, Int.fmod_lt_of_pos a h⟩
theorem draw_spec {d : D} {m : Int} (hs : IsSt d) (h : 0 < m) (h2 : m < 1073741824) : ∃ v d', g_draw [.ptr 0, .dat (.int m)] [d] = some (.int v, [d']) ∧ 0 ≤ v ∧ v < m ∧ IsSt d' := by
  obtain ⟨ns, a, r, c, rfl⟩ := hs
  have hm0 : m ≠ 0 := by omega
  have hmn : m.natAbs < 1073741824 := by omega
  unfold g_draw stD
  by_cases hr : 0 < r
  · simp [hr, hm0, hmn]
    exact ⟨_, _, ⟨rfl, rfl⟩, (fmod_rng h).1, (fmod_rng h).2, ns, _, _, _, rfl⟩
  · have fin : ∀ cell : Int, 0 ≤ cell → ∃ v d', (sqk (sSeq (sSub (dBin oAdd (dBin oIx (dVar 0) (dC (.int 1))) (dC (.int 1))) (dVar 0) (dC (.int 1)))
        (sSeq (sIf (tVal (dBin oGe (dVar 3) (dBin oPow (dC (.int 10)) (dC (.int 18))))) (sSeq (sSub (dBin oDiv (dVar 3) (dVar 1)) (dVar 0) (dC (.int 2)))
        (sRet (dBin oMod (dCB bInt (dCons (dVar 3) dNil)) (dVar 1)))) sNil)
        (sSeq (sAsg 4 (dBin oMod (dCB bInt (dCons (dBin oAdd (dBin oMul (dBin oAdd (dVar 3) (dC (.int 1))) (dC (.int 48271))) (dBin oMul (dBin oIx (dVar 0) (dC (.int 3))) (dC (.int 69621)))) dNil)) (dC (.int 2147483647))))
        (sSeq (sAsg 4 (dBin oMod (dCB bInt (dCons (dBin oAdd (dBin oAdd (dBin oMul (dVar 4) (dC (.int 16807))) (dBin oDiv (dVar 3) (dC (.int 97)))) (dBin oIx (dVar 0) (dC (.int 3)))) dNil)) (dC (.int 2147483629))))
        (sRet (dBin oMod (dBin oDiv (dVar 4) (dC (.int 11))) (dVar 1)))))))
        (.nx, [some (.ptr 0), some (.dat (.int m)), none, some (.dat (.int cell)), none], [stD ns a r (c + 1)])).bind (fnOut 1) = some (.int v, [d']) ∧ 0 ≤ v ∧ v < m ∧ IsSt d' := by
      intro cell hc
      unfold stD
      by_cases h18 : 1000000000000000000 ≤ cell
      · simp [h18, hm0, hmn]
        exact ⟨_, _, ⟨rfl, rfl⟩, (fmod_rng h).1, (fmod_rng h).2, ns, _, _, _, rfl⟩
      · simp [h18, hm0, hmn]
        exact ⟨_, _, ⟨rfl, rfl⟩, (fmod_rng h).1, (fmod_rng h).2, ns, _, _, _, rfl⟩
    unfold stD at fin
    by_cases hl : 0 < ns.length
    · have hl0 : (ns.length : Int) ≠ 0 := by omega
      have hlp : 0 < (ns.length : Int) := by omega
      obtain ⟨h3, h4⟩ := fmod_rng (a := a) hlp
      obtain ⟨x, hx⟩ : ∃ x, ns[(a.fmod ns.length).toNat]? = some x := ⟨_, List.getElem?_eq_getElem (by omega)⟩
      have hmod : oMod (.int a) (.int ns.length) = some (.dat (.int (a.fmod ns.length))) := oMod_i hl0
      have hb : bAbs [.int x] = some (.dat (.int (if x < 0 then -x else x))) := rfl
      have hc : 0 ≤ (if x < 0 then -x else x) := by split <;> omega
      generalize (if x < 0 then -x else x) = cell at hb hc
      have := fin cell hc
      simp [hr, hl, hmod, h3, hx, hb, -bAbs_i] at this ⊢
      exact this
    · have := fin 0 (by omega)
      simp [hr, hl] at this ⊢
      exact this
end DL
namespace DL
open PySem PySem.Spec PyProof.Rows L2
section
variable {N k n : Nat} {body f g : DS} {ss : List SV} {fa fb fc fe fv fo fi : DE} {fr : DA} {ft ta tb : DT} {i j : Nat} {d e : D} {Γ : Ga} {M M' : Sto} {gg g' : D → D → Option OR} {g1 : D → Option OR} {gl : List D → Option OR} {s : SV} {x y : Int} {gf : FnT} {b : Bool} {xs ys ds : List D}
def frzk (k : Nat) (p : SV × Sto) : Option (SV × Sto) := match p.1 with
  | .ptr n => if k ≤ n ∧ n + 1 = p.2.length then (p.2[n]?).map fun d => (.dat d, p.2.dropLast) else none
  | .dat d => some (.dat d, p.2)
@[simp] theorem dFrz_e : dFrz fa Γ M = (fa Γ M).bind (frzk M.length) := rfl
@[simp] theorem frzk_dat : frzk k (.dat d, M) = some (.dat d, M) := rfl
@[simp] theorem frzk_new : frzk M.length (.ptr M.length, M ++ [d]) = some (.dat d, M) := by
  unfold frzk
  simp
@[simp] theorem frzk_ptr (h : k ≤ n) (h2 : n + 1 = M.length) : frzk k (.ptr n, M) = (M[n]?).map fun d => (.dat d, M.dropLast) := by
  unfold frzk
  exact if_pos ⟨h, h2⟩
def tupk (p : List SV × Sto) : Option (SV × Sto) := (dats p.1).bind fun ds => if ds.length ≤ LIM then some (.dat (.tuple ds), p.2) else none
def lstk (p : List SV × Sto) : Option (SV × Sto) := (dats p.1).bind fun ds => if ds.length ≤ LIM then some (.ptr p.2.length, p.2 ++ [.list ds]) else none
@[simp] theorem dTup_e : dTup fr Γ M = (fr Γ M).bind tupk := rfl
@[simp] theorem dLst_e : dLst fr Γ M = (fr Γ M).bind lstk := rfl
@[simp] theorem tupk_e : tupk (ss, M) = (dats ss).bind fun ds => if ds.length ≤ LIM then some (.dat (.tuple ds), M) else none := rfl
@[simp] theorem lstk_e : lstk (ss, M) = (dats ss).bind fun ds => if ds.length ≤ LIM then some (.ptr M.length, M ++ [.list ds]) else none := rfl
theorem lim_e : LIM = 10000000 := by decide
def andk (fb : DE) (Γ : Ga) (p : SV × Sto) : Option (SV × Sto) := match p.1 with
  | .dat (.bool true) => fb Γ p.2
  | .dat (.bool false) => some (.dat (.bool false), p.2)
  | _ => none
def ork (fb : DE) (Γ : Ga) (p : SV × Sto) : Option (SV × Sto) := match p.1 with
  | .dat (.bool false) => fb Γ p.2
  | .dat (.bool true) => some (.dat (.bool true), p.2)
  | _ => none
@[simp] theorem dAnd_e : dAnd fa fb Γ M = (fa Γ M).bind (andk fb Γ) := rfl
@[simp] theorem dOr_e : dOr fa fb Γ M = (fa Γ M).bind (ork fb Γ) := rfl
@[simp] theorem andk_e : andk fb Γ (.dat (.bool b), M) = if b = true then fb Γ M else some (.dat (.bool false), M) := by cases b <;> rfl
@[simp] theorem ork_e : ork fb Γ (.dat (.bool b), M) = if b = true then some (.dat (.bool true), M) else fb Γ M := by cases b <;> rfl
@[simp] theorem dIf_e : dIf ft fa fb Γ M = (ft Γ M).bind fun p => if p.1 = true then fa Γ p.2 else fb Γ p.2 := rfl
def chk (g' : D → D → Option OR) (fc : DE) (q : SV) (Γ : Ga) (M : Sto) (o : OR) : Option (SV × Sto) := match o with
  | .dat (.bool true) => (fc Γ M).bind fun r => (val q r.2).bind fun e' => (val r.1 r.2).bind fun f => (g' e' f).map fun o' => o'.out r.2
  | .dat (.bool false) => some (.dat (.bool false), M)
  | _ => none
@[simp] theorem dChain_e : dChain gg g' fa fb fc Γ M = (fa Γ M).bind fun p => (fb Γ p.2).bind fun q => (val p.1 q.2).bind fun d => (val q.1 q.2).bind fun e => (gg d e).bind (chk g' fc q.1 Γ q.2) := rfl
@[simp] theorem chk_e : chk g' fc s Γ M (.dat (.bool b)) = if b = true then (fc Γ M).bind fun r => (val s r.2).bind fun e' => (val r.1 r.2).bind fun f => (g' e' f).map fun o' => o'.out r.2 else some (.dat (.bool false), M) := by cases b <;> rfl
@[simp] theorem dSl_e {fl fh : DO} : dSl fa fl fh Γ M = (fa Γ M).bind fun p => (fl Γ p.2).bind fun l => (fh Γ l.2).bind fun h => (val p.1 h.2).bind fun d => (sCut d l.1 h.1).map fun o => o.out h.2 := rfl
@[simp] theorem oN_e : oN Γ M = some (none, M) := rfl
def osk (p : SV × Sto) : Option (Option Int × Sto) := match p.1 with
  | .dat (.int i) => some (some i, p.2)
  | _ => none
@[simp] theorem oS_e : oS fe Γ M = (fe Γ M).bind osk := rfl
@[simp] theorem osk_e : osk (.dat (.int x), M) = some (some x, M) := rfl
@[simp] theorem sCut_tup {lo hi : Option Int} : sCut (.tuple xs) lo hi = some (.dat (.tuple (cutL xs lo hi))) := rfl
@[simp] theorem sCut_lst {lo hi : Option Int} : sCut (.list xs) lo hi = some (.new (.list (cutL xs lo hi))) := rfl
theorem cut_to {xs : List D} {x : Int} (h : 0 ≤ x) : cutL xs none (some x) = xs.take x.toNat := by
  obtain ⟨n, rfl⟩ := Int.eq_ofNat_of_zero_le h
  unfold cutL
  rw [show HT.sIx xs.length 0 none = 0 from rfl, show HT.sIx xs.length xs.length (some ((n : Nat) : Int)) = min n xs.length from HT.sIx_nat _ _ _]
  rw [List.drop_zero, Nat.sub_zero, Int.toNat_natCast]
  rcases Nat.le_total n xs.length with h | h
  · rw [Nat.min_eq_left h]
  · rw [Nat.min_eq_right h, List.take_of_length_le (Nat.le_refl _), List.take_of_length_le h]
theorem cut_from {xs : List D} {x : Int} (h : 0 ≤ x) : cutL xs (some x) none = xs.drop x.toNat := by
  obtain ⟨n, rfl⟩ := Int.eq_ofNat_of_zero_le h
  unfold cutL
  rw [show HT.sIx xs.length 0 (some ((n : Nat) : Int)) = min n xs.length from HT.sIx_nat _ _ _, show HT.sIx xs.length xs.length none = xs.length from rfl]
  rw [Int.toNat_natCast]
  rcases Nat.le_total n xs.length with h | h
  · rw [Nat.min_eq_left h, List.take_of_length_le (by rw [List.length_drop]; exact Nat.le_refl _)]
  · rw [Nat.min_eq_right h, List.drop_of_length_le h, List.drop_of_length_le (Nat.le_refl _)]; simp
@[simp] theorem oAdd_tup (h : xs.length + ys.length ≤ LIM) : oAdd (.tuple xs) (.tuple ys) = some (.dat (.tuple (xs ++ ys))) := if_pos h
@[simp] theorem oAdd_lst (h : xs.length + ys.length ≤ LIM) : oAdd (.list xs) (.list ys) = some (.new (.list (xs ++ ys))) := if_pos h
@[simp] theorem oRev_tup : oRev (.tuple xs) = some (.dat (.tuple xs.reverse)) := rfl
def callk (gf : FnT) (ss : List SV) (M : Sto) (o : Option Nat) : Option (SV × Sto) := match o with
  | none => (gf ss []).map fun r => (.dat r.1, M)
  | some n => (M[n]?).bind fun d => (gf (relab ss) [d]).bind fun r => match r.2 with
    | [d'] => some (.dat r.1, M.set n d')
    | _ => none
@[simp] theorem dCall_e : dCall gf fr Γ M = (fr Γ M).bind fun p => callS gf p.1 p.2 := rfl
@[simp] theorem callS_e : callS gf ss M = (onePtr ss).bind (callk gf ss M) := rfl
@[simp] theorem callk_none : callk gf ss M none = (gf ss []).map fun r => (.dat r.1, M) := rfl
def retk (n : Nat) (M : Sto) (r : D × Sto) : Option (SV × Sto) := match r.2 with
  | [d'] => some (.dat r.1, M.set n d')
  | _ => none
@[simp] theorem callk_some : callk gf ss M (some n) = (M[n]?).bind fun d => (gf (relab ss) [d]).bind (retk n M) := rfl
@[simp] theorem retk_e : retk n M (d, [e]) = some (.dat d, M.set n e) := rfl
@[simp] theorem onePtr_nil : onePtr [] = some none := rfl
@[simp] theorem onePtr_dat : onePtr (.dat d :: ss) = onePtr ss := rfl
def opk (n : Nat) (o : Option Nat) : Option (Option Nat) := match o with
  | none => some (some n)
  | some m => if m = n then some (some n) else none
@[simp] theorem onePtr_ptr : onePtr (.ptr n :: ss) = (onePtr ss).bind (opk n) := rfl
@[simp] theorem opk_none : opk n none = some (some n) := rfl
@[simp] theorem opk_some {m : Nat} : opk n (some m) = if m = n then some (some n) else none := rfl
@[simp] theorem relab_nil : relab [] = [] := rfl
@[simp] theorem relab_dat : relab (.dat d :: ss) = .dat d :: relab ss := rfl
@[simp] theorem relab_ptr : relab (.ptr n :: ss) = .ptr 0 :: relab ss := rfl
@[simp] theorem sExpr_e : sExpr fe Γ M = (fe Γ M).bind fun p => some (.nx, Γ, p.2) := rfl
def mwk (T : String) (gm : D → List D → Option (D × D)) (fr : DA) (Γ : Ga) (p : SV × Sto) : Option (SV × Sto) := match p.1 with
  | .ptr n => (p.2[n]?).bind fun d1 => if tyD T d1 = true then (fr Γ p.2).bind fun q => (q.2[n]?).bind fun d => (dats q.1).bind fun ds => (gm d ds).map fun o => (.dat o.2, q.2.set n o.1) else none
  | _ => none
@[simp] theorem dMethW_e {T : String} {gm : D → List D → Option (D × D)} : dMethW T gm fo fr Γ M = (fo Γ M).bind (mwk T gm fr Γ) := rfl
@[simp] theorem mwk_e {T : String} {gm : D → List D → Option (D × D)} : mwk T gm fr Γ (.ptr n, M) = (M[n]?).bind fun d1 => if tyD T d1 = true then (fr Γ M).bind fun q => (q.2[n]?).bind fun d => (dats q.1).bind fun ds => (gm d ds).map fun o => (.dat o.2, q.2.set n o.1) else none := rfl
@[simp] theorem dMeth_e {T : String} {gm : D → List D → Option OR} : dMeth T gm fo fr Γ M = (fo Γ M).bind fun p => (val p.1 p.2).bind fun d1 => if tyD T d1 = true then (fr Γ p.2).bind fun q => (val p.1 q.2).bind fun d => (dats q.1).bind fun ds => (gm d ds).map fun o => o.out q.2 else none := rfl
@[simp] theorem tyD_list : tyD "list" (.list xs) = true := rfl
@[simp] theorem wAppend_e (h : xs.length < LIM) : wAppend (.list xs) [d] = some (.list (xs ++ [d]), .none) := if_pos h
@[simp] theorem wInsert_e (h : xs.length < LIM) (h2 : 0 ≤ x) (h3 : x ≤ 1000000000) : wInsert (.list xs) [.int x, d] = some (.list (xs.take x.toNat ++ [d] ++ xs.drop x.toNat), .none) := if_pos ⟨h, h2, h3⟩
@[simp] theorem dDictN_e : dDictN Γ M = some (.ptr M.length, M ++ [.dict [(.none, .none)]]) := rfl
@[simp] theorem oIsB {a b : Bool} : oIs (.bool a) (.bool b) = some (.dat (.bool (decide (a = b)))) := rfl
@[simp] theorem oIsNotB {a b : Bool} : oIsNot (.bool a) (.bool b) = some (.dat (.bool (!decide (a = b)))) := rfl
@[simp] theorem truD_b : truD (.bool b) = some b := rfl
@[simp] theorem truD_i : truD (.int x) = some (x != 0) := rfl
@[simp] theorem oNot_b : oNot (.bool b) = some (.dat (.bool (!b))) := rfl
@[simp] theorem sAugSub_e : sAugSub gg fo fi fe Γ M = (fo Γ M).bind fun po => (fi Γ po.2).bind fun pi => match po.1, pi.1 with
  | .ptr n, .dat i => (pi.2[n]?).bind fun d => match oIx d i with
    | some (.dat x) => (fe Γ pi.2).bind fun pe => match pe.1 with
      | .dat y => match gg x y with
        | some (.dat z) => (pe.2[n]?).bind fun d2 => (oSet d2 i z).map fun d' => (.nx, Γ, pe.2.set n d')
        | _ => none
      | _ => none
    | _ => none
  | _, _ => none := rfl
@[simp] theorem sAug_e : sAug gg i fe Γ M = match Γ[i]? with
  | some (some s) => (fe Γ M).bind fun p => (val s p.2).bind fun d => (val p.1 p.2).bind fun e => (gg d e).map fun o => (.nx, Γ.set i (some (o.out p.2).1), (o.out p.2).2)
  | _ => none := rfl
@[simp] theorem gNm_e : gNm i d Γ = some (Γ.set i (some (.dat d))) := rfl
@[simp] theorem gTp_e {gs : List DG} : gTp gs (.tuple ds) Γ = gEach gs ds Γ := rfl
@[simp] theorem gEach_nil : gEach [] [] Γ = some Γ := rfl
@[simp] theorem gEach_cons {h : DG} {gs : List DG} : gEach (h :: gs) (d :: ds) Γ = (h d Γ).bind fun Γ1 => gEach gs ds Γ1 := rfl
@[simp] theorem wipeG_nil : wipeG Γ [] = Γ := rfl
@[simp] theorem wipeG_cons {is : List Nat} : wipeG Γ (i :: is) = (wipeG Γ is).set i none := rfl
@[simp] theorem tYes_e : tYes_ Γ M = some (true, M) := rfl
def sqw (p : SV × Sto) : Option ((DIt × Nat) × Sto) := match p.1 with
  | .dat (.list ds) => some ((itD ds, ds.length), p.2)
  | .dat (.tuple ds) => some ((itD ds, ds.length), p.2)
  | .ptr n => match p.2[n]? with
    | some (.list ds) => some ((itP n, ds.length), p.2)
    | _ => none
  | _ => none
@[simp] theorem iSeq_e : iSeq fe Γ M = (fe Γ M).bind sqw := rfl
@[simp] theorem sqw_list : sqw (.dat (.list ds), M) = some ((itD ds, ds.length), M) := rfl
@[simp] theorem sqw_tup : sqw (.dat (.tuple ds), M) = some ((itD ds, ds.length), M) := rfl
theorem sqw_ptr (h : M[n]? = some (.list ds)) : sqw (.ptr n, M) = some ((itP n, ds.length), M) := by
  unfold sqw
  simp only [h]
def rgw (p : List SV × Sto) : Option ((DIt × Nat) × Sto) := match p.1 with
  | [.dat (.int j)] => if -1000000 ≤ j ∧ j ≤ 1000000 then some ((itR 0 j.toNat, j.toNat), p.2) else none
  | [.dat (.int i), .dat (.int j)] => if (-1000000 ≤ i ∧ i ≤ 1000000) ∧ -1000000 ≤ j ∧ j ≤ 1000000 then some ((itR i (j - i).toNat, (j - i).toNat), p.2) else none
  | _ => none
@[simp] theorem iRng_e : iRng fr Γ M = (fr Γ M).bind rgw := rfl
theorem rgw_1 (h : -1000000 ≤ y) (h2 : y ≤ 1000000) : rgw ([.dat (.int y)], M) = some ((itR 0 y.toNat, y.toNat), M) := if_pos ⟨h, h2⟩
theorem rgw_2 (h : -1000000 ≤ y) (h2 : y ≤ 1000000) (h3 : -1000000 ≤ x) (h4 : x ≤ 1000000) : rgw ([.dat (.int x), .dat (.int y)], M) = some ((itR x (y - x).toNat, (y - x).toNat), M) := if_pos ⟨⟨h3, h4⟩, h, h2⟩
def zpw (p : List SV × Sto) : Option ((DIt × Nat) × Sto) := match p.1 with
  | [a, b] => (zSide a p.2).bind fun x => (zSide b p.2).bind fun y => if x.2 = y.2 then some ((itZ x.1.1 y.1.1, min x.1.2 y.1.2), p.2) else none
  | _ => none
@[simp] theorem iZip_e : iZip fr Γ M = (fr Γ M).bind zpw := rfl
theorem itZ_D {xs ys : List D} : itZ (itD xs) (itD ys) = itD ((xs.zip ys).map fun p => .tuple [p.1, p.2]) := by
  funext M i
  unfold itZ itD
  simp only [List.getElem?_map]
  cases h1 : xs[i]? <;> cases h2 : ys[i]? <;> simp [List.getElem?_zip_eq_some, List.zip, List.getElem?_zipWith, h1, h2]
theorem zpw_tup : zpw ([.dat (.tuple xs), .dat (.tuple ys)], M) = some ((itD ((xs.zip ys).map fun p => .tuple [p.1, p.2]), ((xs.zip ys).map fun p : D × D => PyData.tuple [p.1, p.2]).length), M) := by
  show some ((itZ (itD xs) (itD ys), min xs.length ys.length), M) = _
  rw [itZ_D, List.length_map, List.length_zip]
theorem zpw_lst : zpw ([.dat (.list xs), .dat (.list ys)], M) = some ((itD ((xs.zip ys).map fun p => .tuple [p.1, p.2]), ((xs.zip ys).map fun p : D × D => PyData.tuple [p.1, p.2]).length), M) := by
  show some ((itZ (itD xs) (itD ys), min xs.length ys.length), M) = _
  rw [itZ_D, List.length_map, List.length_zip]
/-- a range is the list of its ints -/
theorem itR_D {lo : Int} {n : Nat} : itR lo n = itD ((List.range n).map fun i : Nat => PyData.int (lo + (i : Int))) := by
  funext M i
  unfold itR itD
  rw [List.getElem?_map]
  by_cases h : i < n
  · rw [if_pos h, List.getElem?_range h]; rfl
  · rw [if_neg h, List.getElem?_eq_none (by rw [List.length_range]; omega)]; rfl
end

def rngD (lo : Int) (n : Nat) : List D := (List.range n).map fun i : Nat => PyData.int (lo + (i : Int))
theorem itR_rng {lo : Int} {n : Nat} : itR lo n = itD (rngD lo n) := itR_D
@[simp] theorem rngD_length {lo : Int} {n : Nat} : (rngD lo n).length = n := by
  unfold rngD
  rw [List.length_map, List.length_range]
theorem rngD_get {lo : Int} {n i : Nat} (h : i < n) : (rngD lo n)[i]? = some (.int (lo + i)) := by
  unfold rngD
  rw [List.getElem?_map, List.getElem?_range h]; rfl
/-- what a turn of a loop may end in -/
def Turned (Inv : Nat → Ga → Sto → Prop) (Ret : Fl × Ga × Sto → Prop) (i : Nat) (r : Fl × Ga × Sto) : Prop := match r.1 with
  | .nx => Inv (i + 1) r.2.1 r.2.2
  | .ct => Inv (i + 1) r.2.1 r.2.2
  | .bk => Ret (.nx, r.2.1, r.2.2)
  | .rt s => Ret (.rt s, r.2.1, r.2.2)
theorem forL_ind {ds : List D} {tg : DG} {body : DS} (Inv : Nat → Ga → Sto → Prop) (Ret : Fl × Ga × Sto → Prop)
    (step : ∀ i d Γ M, ds[i]? = some d → Inv i Γ M → ∃ Γ1 r, tg d Γ = some Γ1 ∧ body Γ1 M = some r ∧ Turned Inv Ret i r) :
    ∀ (k i : Nat) (Γ : Ga) (M : Sto), i + k = ds.length → Inv i Γ M → ∃ r, forL (itD ds) tg body (k + 1) i Γ M = some r ∧ (Ret r ∨ ∃ Γ' M', r = (.nx, Γ', M') ∧ Inv ds.length Γ' M')
  | 0, i, Γ, M, hk, h => by
    refine ⟨(.nx, Γ, M), ?_, .inr ⟨Γ, M, rfl, ?_⟩⟩
    · unfold forL itD
      rw [List.getElem?_eq_none (by omega)]
    · have : i = ds.length := by omega
      rw [← this]; exact h
  | k + 1, i, Γ, M, hk, h => by
    have hd : ds[i]? = some ds[i] := List.getElem?_eq_getElem (by omega)
    obtain ⟨Γ1, ⟨fl, Γ2, M2⟩, e1, e2, t⟩ := step i _ Γ M hd h
    unfold forL
    simp only [itD, hd, e1, e2, Option.bind_some]
    cases fl with
    | nx => exact forL_ind Inv Ret step k (i + 1) Γ2 M2 (by omega) t
    | ct => exact forL_ind Inv Ret step k (i + 1) Γ2 M2 (by omega) t
    | bk => exact ⟨_, rfl, .inl t⟩
    | rt s => exact ⟨_, rfl, .inl t⟩
theorem sFor_ind {fi : DI} {tg : DG} {body : DS} {Γ : Ga} {M M1 : Sto} {ds : List D} (hi : fi Γ M = some ((itD ds, ds.length), M1)) (Inv : Nat → Ga → Sto → Prop) (Ret : Fl × Ga × Sto → Prop)
    (h0 : Inv 0 Γ M1) (step : ∀ i d Γ M, ds[i]? = some d → Inv i Γ M → ∃ Γ1 r, tg d Γ = some Γ1 ∧ body Γ1 M = some r ∧ Turned Inv Ret i r) :
    ∃ r, sFor fi tg body Γ M = some r ∧ (Ret r ∨ ∃ Γ' M', r = (.nx, Γ', M') ∧ Inv ds.length Γ' M') := by
  obtain ⟨r, e, h⟩ := forL_ind Inv Ret step ds.length 0 Γ M1 (by omega) h0
  refine ⟨r, ?_, h⟩
  unfold sFor
  rw [hi]
  exact e
/-- a loop that always runs to its end -/
theorem sFor_all {fi : DI} {tg : DG} {body : DS} {Γ : Ga} {M M1 : Sto} {ds : List D} (hi : fi Γ M = some ((itD ds, ds.length), M1)) (Inv : Nat → Ga → Sto → Prop)
    (h0 : Inv 0 Γ M1) (step : ∀ i d Γ M, ds[i]? = some d → Inv i Γ M → ∃ Γ1 Γ2 M2, tg d Γ = some Γ1 ∧ body Γ1 M = some (.nx, Γ2, M2) ∧ Inv (i + 1) Γ2 M2) :
    ∃ Γ' M', sFor fi tg body Γ M = some (.nx, Γ', M') ∧ Inv ds.length Γ' M' := by
  obtain ⟨r, e, h⟩ := sFor_ind hi Inv (fun _ => False) h0 fun i d Γ M h1 h2 => by
    obtain ⟨Γ1, Γ2, M2, e1, e2, e3⟩ := step i d Γ M h1 h2
    exact ⟨Γ1, _, e1, e2, e3⟩
  rcases h with h | ⟨Γ', M', rfl, h⟩
  · exact h.elim
  · exact ⟨Γ', M', e, h⟩
theorem compL_ind {ds : List D} {tg : DG} {own : List Nat} {Γ : Ga} {tt : DT} {te : DE} {L : Nat} (Inv : Nat → Sto → List D → Prop) (hL : ds.length ≤ LIM)
    (step : ∀ i d M acc, ds[i]? = some d → M.length = L → Inv i M acc → ∃ Γ1 b M1, tg d (wipeG Γ own) = some Γ1 ∧ tt Γ1 (M ++ [.list acc]) = some (b, M1 ++ [.list acc]) ∧ M1.length = L ∧
      (b = true → ∃ x M2, te Γ1 (M1 ++ [.list acc]) = some (.dat x, M2 ++ [.list acc]) ∧ M2.length = L ∧ Inv (i + 1) M2 (acc ++ [x])) ∧ (b = false → Inv (i + 1) M1 acc)) :
    ∀ (k i : Nat) (M : Sto) (acc : List D), i + k = ds.length → acc.length ≤ i → M.length = L → Inv i M acc → ∃ M' acc', compL (itD ds) tg own Γ tt te (k + 1) i (M ++ [.list acc]) = some (M' ++ [.list acc']) ∧ M'.length = L ∧ Inv ds.length M' acc'
  | 0, i, M, acc, hk, ha, hM, h => by
    refine ⟨M, acc, ?_, hM, ?_⟩
    · unfold compL itD
      rw [List.getElem?_eq_none (by omega)]
    · have : i = ds.length := by omega
      rw [← this]; exact h
  | k + 1, i, M, acc, hk, ha, hM, h => by
    have hd : ds[i]? = some ds[i] := List.getElem?_eq_getElem (by omega)
    obtain ⟨Γ1, b, M1, e1, e2, hM1, ht, hf⟩ := step i _ M acc hd hM h
    unfold compL
    simp only [itD, hd, e1, e2, Option.bind_some]
    cases b with
    | true =>
      obtain ⟨x, M2, e3, hM2, h2⟩ := ht rfl
      have hl : acc.length < LIM := by omega
      simp [e3, hM1, hM2, hM, hl]
      exact compL_ind Inv hL step k (i + 1) M2 (acc ++ [x]) (by omega) (by simp; omega) hM2 h2
    | false =>
      simp [hM1, hM]
      exact compL_ind Inv hL step k (i + 1) M1 acc (by omega) (by omega) hM1 (hf rfl)
theorem dComp_ind {fi : DI} {ds : List D} {tg : DG} {own : List Nat} {Γ : Ga} {tt : DT} {te : DE} {M0 M : Sto} (hi : fi Γ M0 = some ((itD ds, ds.length), M)) (Inv : Nat → Sto → List D → Prop) (hL : ds.length ≤ LIM) (h0 : Inv 0 M [])
    (step : ∀ i d M' acc, ds[i]? = some d → M'.length = M.length → Inv i M' acc → ∃ Γ1 b M1, tg d (wipeG Γ own) = some Γ1 ∧ tt Γ1 (M' ++ [.list acc]) = some (b, M1 ++ [.list acc]) ∧ M1.length = M.length ∧
      (b = true → ∃ x M2, te Γ1 (M1 ++ [.list acc]) = some (.dat x, M2 ++ [.list acc]) ∧ M2.length = M.length ∧ Inv (i + 1) M2 (acc ++ [x])) ∧ (b = false → Inv (i + 1) M1 acc)) :
    ∃ M' acc, dComp fi tg own tt te Γ M0 = some (.ptr M.length, M' ++ [.list acc]) ∧ M'.length = M.length ∧ Inv ds.length M' acc := by
  obtain ⟨M', acc, e, hl, h⟩ := compL_ind (L := M.length) Inv hL step ds.length 0 M [] (by omega) (Nat.le_refl _) rfl h0
  refine ⟨M', acc, ?_, hl, h⟩
  unfold dComp
  rw [hi]
  simp only [Option.bind_some]
  rw [e]
  simp [hl]
/-- a comprehension that changes nothing -/
theorem dComp_map {fi : DI} {ds : List D} {tg : DG} {own : List Nat} {Γ : Ga} {tt : DT} {te : DE} {M0 M : Sto} (p : D → Bool) (h : D → D) (hi : fi Γ M0 = some ((itD ds, ds.length), M)) (hL : ds.length ≤ LIM)
    (step : ∀ d ∈ ds, ∀ acc, ∃ Γ1, tg d (wipeG Γ own) = some Γ1 ∧ tt Γ1 (M ++ [.list acc]) = some (p d, M ++ [.list acc]) ∧ (p d = true → te Γ1 (M ++ [.list acc]) = some (.dat (h d), M ++ [.list acc]))) :
    dComp fi tg own tt te Γ M0 = some (.ptr M.length, M ++ [.list ((ds.filter p).map h)]) := by
  obtain ⟨M', acc, e, _, rfl, rfl⟩ := dComp_ind hi (fun i M' acc => M' = M ∧ acc = ((ds.take i).filter p).map h) hL ⟨rfl, by simp⟩ fun i d M' acc hd _ ⟨hM, ha⟩ => by
    subst hM
    obtain ⟨Γ1, e1, e2, e3⟩ := step d (List.mem_of_getElem? hd) acc
    have ht : ds.take (i + 1) = ds.take i ++ [d] := by
      rw [List.take_add_one, hd]; rfl
    refine ⟨Γ1, p d, _, e1, e2, rfl, fun hp => ⟨h d, _, e3 hp, rfl, rfl, ?_⟩, fun hp => ⟨rfl, ?_⟩⟩
    · rw [ht, List.filter_append, List.map_append, ha, List.filter_cons_of_pos hp]; rfl
    · rw [ht, List.filter_append, List.map_append, ha, List.filter_cons_of_neg (by rw [hp]; exact Bool.false_ne_true)]; simp
  rw [e, List.take_length]
theorem dComp_all {fi : DI} {ds : List D} {tg : DG} {own : List Nat} {Γ : Ga} {te : DE} {M0 M : Sto} (h : D → D) (hi : fi Γ M0 = some ((itD ds, ds.length), M)) (hL : ds.length ≤ LIM)
    (step : ∀ d ∈ ds, ∀ acc, ∃ Γ1, tg d (wipeG Γ own) = some Γ1 ∧ te Γ1 (M ++ [.list acc]) = some (.dat (h d), M ++ [.list acc])) :
    dComp fi tg own tYes_ te Γ M0 = some (.ptr M.length, M ++ [.list (ds.map h)]) := by
  have := dComp_map (tt := tYes_) (fun _ => true) h hi hL fun d hd acc => by
    obtain ⟨Γ1, e1, e2⟩ := step d hd acc
    exact ⟨Γ1, e1, rfl, fun _ => e2⟩
  rw [this, List.filter_eq_self.mpr fun _ _ => rfl]
@[simp] theorem bAll_m {bs : List Bool} : bAll [.list (bs.map .bool)] = some (.dat (.bool (bs.all id))) := by
  show (blsD (bs.map .bool)).map _ = _
  rw [blsD_map]; rfl
@[simp] theorem bAny_m {bs : List Bool} : bAny [.list (bs.map .bool)] = some (.dat (.bool (bs.any id))) := by
  show (blsD (bs.map .bool)).map _ = _
  rw [blsD_map]; rfl
@[simp] theorem bSum_m {ns : List Int} : bSum [.list (ns.map .int)] = some (.dat (.int ns.sum)) := by
  show (intsD (ns.map .int)).map _ = _
  rw [intsD_map]; rfl
@[simp] theorem bTuple_l {ds : List D} : bTuple [.list ds] = some (.dat (.tuple ds)) := rfl
@[simp] theorem bTuple_t {ds : List D} : bTuple [.tuple ds] = some (.dat (.tuple ds)) := rfl
@[simp] theorem bList_l {ds : List D} : bList [.list ds] = some (.new (.list ds)) := rfl
@[simp] theorem bList_t {ds : List D} : bList [.tuple ds] = some (.new (.list ds)) := rfl
theorem okCmp_ii {a b c d : Int} : okCmp (.tuple [.int a, .int b]) (.tuple [.int c, .int d]) = true := by
  unfold okCmp
  simp [PySem.W.alike, PySem.W.alikeAll, PyData.plain, PyData.plainAll, PyData.depth, PyData.depthAll]
@[simp] theorem oLt_ii {a b c d : Int} : oLt (.tuple [.int a, .int b]) (.tuple [.int c, .int d]) = some (.dat (.bool (decide (a < c ∨ (a = c ∧ b < d))))) := by
  unfold oLt
  rw [if_pos okCmp_ii, PySem.W.dataLt_ii]
@[simp] theorem oGe_ii {a b c d : Int} : oGe (.tuple [.int a, .int b]) (.tuple [.int c, .int d]) = some (.dat (.bool (!decide (a < c ∨ (a = c ∧ b < d))))) := by
  unfold oGe
  rw [if_pos okCmp_ii, PySem.W.dataLt_ii]
theorem oEq_nil {ds : List D} (h : (PyData.tuple ds).plain = true) : oEq (.tuple ds) (.tuple []) = some (.dat (.bool ds.isEmpty)) := by
  unfold oEq
  have hd : min (PyData.depth (.tuple ds)) (PyData.depth (.tuple [])) ≤ 60 := Nat.le_trans (Nat.min_le_right _ _) (by simp [PyData.depth, PyData.depthAll])
  have ho : okEq (.tuple ds) (.tuple []) = true := by
    unfold okEq
    rw [h, decide_eq_true hd]
    simp [PyData.plain, PyData.plainAll]
  rw [if_pos ho]
  cases ds <;> simp [PyData.eqv, PyData.eqvAll]
def lrk (p : SV × Sto) : Option (SV × Sto) := match p.1 with
  | .dat (.int n) => if -1000000 ≤ n ∧ n ≤ 1000000 then some ((OR.new (.list (rgD 0 n))).out p.2) else none
  | _ => none
@[simp] theorem oLstRg1_e {fa : DE} {Γ : Ga} {M : Sto} : oLstRg1 fa Γ M = (fa Γ M).bind lrk := rfl
@[simp] theorem lrk_e {y : Int} {M : Sto} (h : -1000000 ≤ y) (h2 : y ≤ 1000000) : lrk (.dat (.int y), M) = some (.ptr M.length, M ++ [.list (rgD 0 y)]) := if_pos ⟨h, h2⟩
/-- a loop over a changing list that stays while it is walked -/
theorem forL_indP {it : DIt} {ds : List D} {tg : DG} {body : DS} (Inv : Nat → Ga → Sto → Prop) (Ret : Fl × Ga × Sto → Prop) (hit : ∀ i Γ M, Inv i Γ M → it M i = some ds[i]?)
    (step : ∀ i d Γ M, ds[i]? = some d → Inv i Γ M → ∃ Γ1 r, tg d Γ = some Γ1 ∧ body Γ1 M = some r ∧ Turned Inv Ret i r) :
    ∀ (k i : Nat) (Γ : Ga) (M : Sto), i + k = ds.length → Inv i Γ M → ∃ r, forL it tg body (k + 1) i Γ M = some r ∧ (Ret r ∨ ∃ Γ' M', r = (.nx, Γ', M') ∧ Inv ds.length Γ' M')
  | 0, i, Γ, M, hk, h => by
    refine ⟨(.nx, Γ, M), ?_, .inr ⟨Γ, M, rfl, ?_⟩⟩
    · unfold forL
      rw [hit i Γ M h, List.getElem?_eq_none (by omega)]
    · have : i = ds.length := by omega
      rw [← this]; exact h
  | k + 1, i, Γ, M, hk, h => by
    have hd : ds[i]? = some ds[i] := List.getElem?_eq_getElem (by omega)
    obtain ⟨Γ1, ⟨fl, Γ2, M2⟩, e1, e2, t⟩ := step i _ Γ M hd h
    unfold forL
    simp only [hit i Γ M h, hd, e1, e2, Option.bind_some]
    cases fl with
    | nx => exact forL_indP Inv Ret hit step k (i + 1) Γ2 M2 (by omega) t
    | ct => exact forL_indP Inv Ret hit step k (i + 1) Γ2 M2 (by omega) t
    | bk => exact ⟨_, rfl, .inl t⟩
    | rt s => exact ⟨_, rfl, .inl t⟩
theorem sFor_indP {fi : DI} {it : DIt} {tg : DG} {body : DS} {Γ : Ga} {M M1 : Sto} {ds : List D} (hi : fi Γ M = some ((it, ds.length), M1)) (Inv : Nat → Ga → Sto → Prop) (Ret : Fl × Ga × Sto → Prop) (hit : ∀ i Γ M, Inv i Γ M → it M i = some ds[i]?)
    (h0 : Inv 0 Γ M1) (step : ∀ i d Γ M, ds[i]? = some d → Inv i Γ M → ∃ Γ1 r, tg d Γ = some Γ1 ∧ body Γ1 M = some r ∧ Turned Inv Ret i r) :
    ∃ r, sFor fi tg body Γ M = some r ∧ (Ret r ∨ ∃ Γ' M', r = (.nx, Γ', M') ∧ Inv ds.length Γ' M') := by
  obtain ⟨r, e, h⟩ := forL_indP Inv Ret hit step ds.length 0 Γ M1 (by omega) h0
  refine ⟨r, ?_, h⟩
  unfold sFor
  rw [hi]
  exact e
theorem itP_at {n i : Nat} {M : Sto} {ds : List D} (h : M[n]? = some (.list ds)) : itP n M i = some ds[i]? := by
  unfold itP
  simp only [h]
end DL
namespace K00
open PySem PySem.Spec PyProof.Rows L2 DL
def top (i : Nat) : Stmt := PySem.Challenge.pw_drawnalike_k00_is_tie.main.body.getD i (.Pass ⟨0, 0, 0, 0⟩)
abbrev st_is_integer : Stmt := top 1
abbrev st_is_tuple : Stmt := top 2
abbrev st_sums_by : Stmt := top 4
abbrev st_is_row : Stmt := top 5
abbrev st_are_even : Stmt := top 6
abbrev st_is_tie : Stmt := top 7
abbrev st__law_start : Stmt := top 9
abbrev st__law_draw : Stmt := top 10
abbrev st__law_shuffled : Stmt := top 11
abbrev st__law_some_tie : Stmt := top 12
abbrev st__law_one_of : Stmt := top 13
abbrev st__law_bent : Stmt := top 14
abbrev st__law_says : Stmt := top 15
abbrev st__law_is_int : Stmt := top 16
abbrev st__law_units : Stmt := top 17
abbrev st__law_is_tie : Stmt := top 18
abbrev st_law : Stmt := top 19
abbrev FnP (K : PySem.W.Frag) (x : Str) (st : Stmt) (f : Addr) (fd : FuncData) : Prop := FunD K x x (defArgs st) (defBody st) (defScope st) [] [] f fd
theorem S_is_integer : FnScope ["datum"] ["datum"] (defScope st_is_integer) := ⟨rfl, rfl, rfl, by decide +kernel, rfl, by decide +kernel, by decide +kernel⟩
theorem S_is_tuple : FnScope ["datum", "many"] ["datum", "many"] (defScope st_is_tuple) := ⟨rfl, rfl, rfl, by decide +kernel, rfl, by decide +kernel, by decide +kernel⟩
theorem S_sums_by : FnScope ["table", "place", "many", "found", "row"] ["table", "place", "many"] (defScope st_sums_by) := ⟨rfl, rfl, rfl, by decide +kernel, rfl, by decide +kernel, by decide +kernel⟩
theorem S_is_row : FnScope ["datum", "many", "others", "one"] ["datum", "many", "others"] (defScope st_is_row) := ⟨rfl, rfl, rfl, by decide +kernel, rfl, by decide +kernel, by decide +kernel⟩
theorem S_are_even : FnScope ["sums", "one"] ["sums"] (defScope st_are_even) := ⟨rfl, rfl, rfl, by decide +kernel, rfl, by decide +kernel, by decide +kernel⟩
theorem S_is_tie : FnScope ["datum", "many", "others", "row", "one", "other"] ["datum", "many", "others"] (defScope st_is_tie) := ⟨rfl, rfl, rfl, by decide +kernel, rfl, by decide +kernel, by decide +kernel⟩
theorem S__law_start : FnScope ["script"] ["script"] (defScope st__law_start) := ⟨rfl, rfl, rfl, by decide +kernel, rfl, by decide +kernel, by decide +kernel⟩
theorem S__law_draw : FnScope ["state", "most", "found", "cell", "mixed"] ["state", "most"] (defScope st__law_draw) := ⟨rfl, rfl, rfl, by decide +kernel, rfl, by decide +kernel, by decide +kernel⟩
theorem S__law_shuffled : FnScope ["state", "items", "found", "item"] ["state", "items"] (defScope st__law_shuffled) := ⟨rfl, rfl, rfl, by decide +kernel, rfl, by decide +kernel, by decide +kernel⟩
theorem S__law_some_tie : FnScope ["state", "many", "others", "table", "turn", "left", "right", "k", "pair"] ["state", "many", "others"] (defScope st__law_some_tie) := ⟨rfl, rfl, rfl, by decide +kernel, rfl, by decide +kernel, by decide +kernel⟩
theorem S__law_one_of : FnScope ["state", "items"] ["state", "items"] (defScope st__law_one_of) := ⟨rfl, rfl, rfl, by decide +kernel, rfl, by decide +kernel, by decide +kernel⟩
theorem S__law_bent : FnScope ["state", "datum", "turn", "at", "other"] ["state", "datum", "turn"] (defScope st__law_bent) := ⟨rfl, rfl, rfl, by decide +kernel, rfl, by decide +kernel, by decide +kernel⟩
theorem S__law_says : FnScope ["answer", "due"] ["answer", "due"] (defScope st__law_says) := ⟨rfl, rfl, rfl, by decide +kernel, rfl, by decide +kernel, by decide +kernel⟩
theorem S__law_is_int : FnScope ["x"] ["x"] (defScope st__law_is_int) := ⟨rfl, rfl, rfl, by decide +kernel, rfl, by decide +kernel, by decide +kernel⟩
theorem S__law_units : FnScope ["table", "place", "many", "found", "k", "row"] ["table", "place", "many"] (defScope st__law_units) := ⟨rfl, rfl, rfl, by decide +kernel, rfl, by decide +kernel, by decide +kernel⟩
theorem S__law_is_tie : FnScope ["datum", "many", "others", "row", "k", "sums", "x"] ["datum", "many", "others"] (defScope st__law_is_tie) := ⟨rfl, rfl, rfl, by decide +kernel, rfl, by decide +kernel, by decide +kernel⟩
theorem S_law : FnScope ["script", "state", "many", "others", "tie", "data", "turn", "datum", "other", "row"] ["script"] (defScope st_law) := ⟨rfl, rfl, rfl, by decide +kernel, rfl, by decide +kernel, by decide +kernel⟩
structure Gs (K : PySem.W.Frag) (mg : Str → Option Value) : Prop where
  f_is_integer : ∃ f fd, FnP K "is_integer" st_is_integer f fd ∧ mg "is_integer" = some (.ref f)
  f_is_tuple : ∃ f fd, FnP K "is_tuple" st_is_tuple f fd ∧ mg "is_tuple" = some (.ref f)
  f_sums_by : ∃ f fd, FnP K "sums_by" st_sums_by f fd ∧ mg "sums_by" = some (.ref f)
  f_is_row : ∃ f fd, FnP K "is_row" st_is_row f fd ∧ mg "is_row" = some (.ref f)
  f_are_even : ∃ f fd, FnP K "are_even" st_are_even f fd ∧ mg "are_even" = some (.ref f)
  f_is_tie : ∃ f fd, FnP K "is_tie" st_is_tie f fd ∧ mg "is_tie" = some (.ref f)
  f__law_start : ∃ f fd, FnP K "_law_start" st__law_start f fd ∧ mg "_law_start" = some (.ref f)
  f__law_draw : ∃ f fd, FnP K "_law_draw" st__law_draw f fd ∧ mg "_law_draw" = some (.ref f)
  f__law_shuffled : ∃ f fd, FnP K "_law_shuffled" st__law_shuffled f fd ∧ mg "_law_shuffled" = some (.ref f)
  f__law_some_tie : ∃ f fd, FnP K "_law_some_tie" st__law_some_tie f fd ∧ mg "_law_some_tie" = some (.ref f)
  f__law_one_of : ∃ f fd, FnP K "_law_one_of" st__law_one_of f fd ∧ mg "_law_one_of" = some (.ref f)
  f__law_bent : ∃ f fd, FnP K "_law_bent" st__law_bent f fd ∧ mg "_law_bent" = some (.ref f)
  f__law_says : ∃ f fd, FnP K "_law_says" st__law_says f fd ∧ mg "_law_says" = some (.ref f)
  f__law_is_int : ∃ f fd, FnP K "_law_is_int" st__law_is_int f fd ∧ mg "_law_is_int" = some (.ref f)
  f__law_units : ∃ f fd, FnP K "_law_units" st__law_units f fd ∧ mg "_law_units" = some (.ref f)
  f__law_is_tie : ∃ f fd, FnP K "_law_is_tie" st__law_is_tie f fd ∧ mg "_law_is_tie" = some (.ref f)
  f_law : ∃ f fd, FnP K "law" st_law f fd ∧ mg "law" = some (.ref f)
  n_abs : mg "abs" = none
  n_all : mg "all" = none
  n_any : mg "any" = none
  n_bool : mg "bool" = none
  n_int : mg "int" = none
  n_isinstance : mg "isinstance" = none
  n_len : mg "len" = none
  n_list : mg "list" = none
  n_range : mg "range" = none
  n_sorted : mg "sorted" = none
  n_str : mg "str" = none
  n_sum : mg "sum" = none
  n_tuple : mg "tuple" = none
  n_zip : mg "zip" = none
def g_is_integer : FnT := dFun 1
  (sRet (dAnd (dUn (oIsi "int") (dVar 0)) (dUn oNot (dUn (oIsi "bool") (dVar 0)))))
def g_is_tuple : FnT := dFun 2
  (sRet (dAnd (dUn (oIsi "tuple") (dVar 0)) (dBin oEq (dCB bLen (dCons (dVar 0) dNil)) (dVar 1))))
def g_sums_by : FnT := dFun 5
  (sSeq (sAsg 3 (dBin oMul (dFrz (dLst (dCons (dC (.int 0)) dNil))) (dVar 2)))
  (sSeq (sFor (iSeq (dVar 0)) (gNm 4) (sAugSub oIAdd (dVar 3) (dBin oIx (dVar 4) (dVar 1)) (dBin oIx (dVar 4) (dC (.int 2)))))
  (sRet (dVar 3))))
def g_is_row : FnT := dFun 4
  (sSeq (sIf (tOr_ (tNot_ (tTru (dCall g_is_tuple (dCons (dVar 0) (dCons (dC (.int 3)) dNil))))) (tNot_ (tTru (dCB bAll (dCons (dFrz (dComp (iSeq (dVar 0)) (gNm 3) [3] tYes_ (dCall g_is_integer (dCons (dVar 3) dNil)))) dNil))))) (sRet (dC (.bool false))) sNil)
  (sRet (dAnd (dChain oLe oLt (dC (.int 0)) (dBin oIx (dVar 0) (dC (.int 0))) (dVar 1)) (dAnd (dChain oLe oLt (dC (.int 0)) (dBin oIx (dVar 0) (dC (.int 1))) (dVar 2)) (dBin oGt (dBin oIx (dVar 0) (dC (.int 2))) (dC (.int 0)))))))
def g_are_even : FnT := dFun 2
  (sRet (dAnd (dBin oGt (dBin oIx (dVar 0) (dC (.int 0))) (dC (.int 0))) (dCB bAll (dCons (dFrz (dComp (iSeq (dVar 0)) (gNm 1) [1] tYes_ (dBin oEq (dVar 1) (dBin oIx (dVar 0) (dC (.int 0)))))) dNil))))
def g_is_tie : FnT := dFun 6
  (sSeq (sIf (tOr_ (tNot_ (tTru (dUn (oIsi "tuple") (dVar 0)))) (tOr_ (tVal (dBin oEq (dVar 0) (dTup dNil))) (tNot_ (tTru (dCB bAll (dCons (dFrz (dComp (iSeq (dVar 0)) (gNm 3) [3] tYes_ (dCall g_is_row (dCons (dVar 3) (dCons (dVar 1) (dCons (dVar 2) dNil)))))) dNil)))))) (sRet (dC (.bool false))) sNil)
  (sSeq (sIf (tNot_ (tTru (dCB bAll (dCons (dFrz (dComp (iZip (dCons (dVar 0) (dCons (dSl (dVar 0) (oS (dC (.int 1))) oN) dNil))) (gTp [(gNm 4), (gNm 5)]) [4, 5] tYes_ (dBin oLt (dSl (dVar 4) oN (oS (dC (.int 2)))) (dSl (dVar 5) oN (oS (dC (.int 2))))))) dNil)))) (sRet (dC (.bool false))) sNil)
  (sRet (dAnd (dCall g_are_even (dCons (dCall g_sums_by (dCons (dVar 0) (dCons (dC (.int 0)) (dCons (dVar 1) dNil)))) dNil)) (dCall g_are_even (dCons (dCall g_sums_by (dCons (dVar 0) (dCons (dC (.int 1)) (dCons (dVar 2) dNil)))) dNil))))))
def g__law_draw : FnT := dFun 5
  (sSeq (sSub (dBin oAdd (dBin oIx (dVar 0) (dC (.int 3))) (dC (.int 1))) (dVar 0) (dC (.int 3)))
  (sSeq (sIf (tVal (dBin oGt (dBin oIx (dVar 0) (dC (.int 2))) (dC (.int 0)))) (sSeq (sAsg 2 (dBin oMod (dCB bInt (dCons (dBin oIx (dVar 0) (dC (.int 2))) dNil)) (dVar 1)))
  (sSeq (sSub (dBin oDiv (dBin oIx (dVar 0) (dC (.int 2))) (dVar 1)) (dVar 0) (dC (.int 2)))
  (sRet (dVar 2)))) sNil)
  (sSeq (sAsg 3 (dC (.int 0)))
  (sSeq (sIf (tVal (dBin oGt (dCB bLen (dCons (dBin oIx (dVar 0) (dC (.int 0))) dNil)) (dC (.int 0)))) (sAsg 3 (dCB bAbs (dCons (dBin oIx (dBin oIx (dVar 0) (dC (.int 0))) (dBin oMod (dCB bInt (dCons (dBin oIx (dVar 0) (dC (.int 1))) dNil)) (dCB bLen (dCons (dBin oIx (dVar 0) (dC (.int 0))) dNil)))) dNil))) sNil)
  (sSeq (sSub (dBin oAdd (dBin oIx (dVar 0) (dC (.int 1))) (dC (.int 1))) (dVar 0) (dC (.int 1)))
  (sSeq (sIf (tVal (dBin oGe (dVar 3) (dBin oPow (dC (.int 10)) (dC (.int 18))))) (sSeq (sSub (dBin oDiv (dVar 3) (dVar 1)) (dVar 0) (dC (.int 2)))
  (sRet (dBin oMod (dCB bInt (dCons (dVar 3) dNil)) (dVar 1)))) sNil)
  (sSeq (sAsg 4 (dBin oMod (dCB bInt (dCons (dBin oAdd (dBin oMul (dBin oAdd (dVar 3) (dC (.int 1))) (dC (.int 48271))) (dBin oMul (dBin oIx (dVar 0) (dC (.int 3))) (dC (.int 69621)))) dNil)) (dC (.int 2147483647))))
  (sSeq (sAsg 4 (dBin oMod (dCB bInt (dCons (dBin oAdd (dBin oAdd (dBin oMul (dVar 4) (dC (.int 16807))) (dBin oDiv (dVar 3) (dC (.int 97)))) (dBin oIx (dVar 0) (dC (.int 3)))) dNil)) (dC (.int 2147483629))))
  (sRet (dBin oMod (dBin oDiv (dVar 4) (dC (.int 11))) (dVar 1)))))))))))
def g__law_shuffled : FnT := dFun 4
  (sSeq (sAsg 2 (dLst dNil))
  (sSeq (sFor (iSeq (dVar 1)) (gNm 3) (sExpr (dMethW "list" wInsert (dVar 2) (dCons (dCall g__law_draw (dCons (dVar 0) (dCons (dBin oAdd (dCB bLen (dCons (dVar 2) dNil)) (dC (.int 1))) dNil))) (dCons (dVar 3) dNil)))))
  (sRet (dVar 2))))
def g__law_some_tie : FnT := dFun 9
  (sSeq (sAsg 3 dDictN)
  (sSeq (sFor (iRng (dCons (dBin oAdd (dC (.int 1)) (dCall g__law_draw (dCons (dVar 0) (dCons (dC (.int 3)) dNil)))) dNil)) (gNm 4) (sSeq (sAsg 5 (dCall g__law_shuffled (dCons (dVar 0) (dCons (dFrz (dBin oMul (dFrz (oLstRg1 (dVar 1))) (dVar 2))) dNil))))
  (sSeq (sAsg 6 (dFrz (dBin oMul (dFrz (oLstRg1 (dVar 2))) (dVar 1))))
  (sFor (iRng (dCons (dCB bLen (dCons (dVar 5) dNil)) dNil)) (gNm 7) (sSub (dBin oAdd (dMeth "dict" mGet (dVar 3) (dCons (dTup (dCons (dBin oIx (dVar 5) (dVar 7)) (dCons (dBin oIx (dVar 6) (dVar 7)) dNil))) (dCons (dC (.int 0)) dNil))) (dC (.int 1))) (dVar 3) (dTup (dCons (dBin oIx (dVar 5) (dVar 7)) (dCons (dBin oIx (dVar 6) (dVar 7)) dNil))))))))
  (sRet (dCB bTuple (dCons (dFrz (dComp (iSeq (dFrz (dCB bSorted (dCons (dVar 3) dNil)))) (gNm 8) [8] tYes_ (dBin oAdd (dVar 8) (dTup (dCons (dBin oIx (dVar 3) (dVar 8)) dNil))))) dNil)))))
def g__law_one_of : FnT := dFun 2
  (sRet (dBin oIx (dVar 1) (dCall g__law_draw (dCons (dVar 0) (dCons (dCB bLen (dCons (dVar 1) dNil)) dNil)))))
def h__law_bent (gr : FnT) : FnT := dFun 5
  (sSeq (sIf (tAnd_ (tTru (dUn (oIsi "tuple") (dVar 1))) (tAnd_ (tVal (dBin oGt (dCB bLen (dCons (dVar 1) dNil)) (dC (.int 0)))) (tAnd_ (tVal (dBin oLt (dVar 2) (dC (.int 30)))) (tVal (dBin oGt (dCall g__law_draw (dCons (dVar 0) (dCons (dC (.int 7)) dNil))) (dC (.int 0))))))) (sSeq (sAsg 3 (dCall g__law_draw (dCons (dVar 0) (dCons (dCB bLen (dCons (dVar 1) dNil)) dNil))))
  (sRet (dBin oAdd (dBin oAdd (dSl (dVar 1) oN (oS (dVar 3))) (dTup (dCons (dCall gr (dCons (dVar 0) (dCons (dBin oIx (dVar 1) (dVar 3)) (dCons (dBin oAdd (dVar 2) (dC (.int 1))) dNil)))) dNil))) (dSl (dVar 1) (oS (dBin oAdd (dVar 3) (dC (.int 1)))) oN)))) sNil)
  (sSeq (sIf (tTru (dUn (oIsi "tuple") (dVar 1))) (sSeq (sAsg 3 (dCall g__law_draw (dCons (dVar 0) (dCons (dBin oAdd (dCB bLen (dCons (dVar 1) dNil)) (dC (.int 1))) dNil))))
  (sSeq (sAsg 4 (dFrz (dLst (dCons (dBin oAdd (dSl (dVar 1) oN (oS (dVar 3))) (dSl (dVar 1) (oS (dBin oAdd (dVar 3) (dC (.int 1)))) oN)) (dCons (dBin oAdd (dBin oAdd (dSl (dVar 1) oN (oS (dVar 3))) (dSl (dVar 1) (oS (dVar 3)) (oS (dBin oAdd (dVar 3) (dC (.int 1)))))) (dSl (dVar 1) (oS (dVar 3)) oN)) (dCons (dBin oAdd (dVar 1) (dTup (dCons (dC (.int 0)) dNil))) (dCons (dTup dNil) dNil)))))))
  (sRet (dCall g__law_one_of (dCons (dVar 0) (dCons (dFrz (dBin oAdd (dVar 4) (dFrz (dLst (dCons (dBin oAdd (dSl (dVar 1) (oS (dVar 3)) oN) (dSl (dVar 1) oN (oS (dVar 3)))) (dCons (dUn oRev (dVar 1)) (dCons (dC (.str "shown")) dNil))))))) dNil)))))) sNil)
  (sSeq (sIf (tTru (dUn (oIsi "str") (dVar 1))) (sRet (dCall g__law_one_of (dCons (dVar 0) (dCons (dFrz (dLst (dCons (dC (.str "shut")) (dCons (dC (.str "kept")) (dCons (dC (.str "open")) (dCons (dC (.str "")) (dCons (dBin oAdd (dVar 1) (dC (.str "x"))) (dCons (dSl (dVar 1) (oS (dC (.int 1))) oN) (dCons (dC (.int 1)) dNil))))))))) dNil)))) sNil)
  (sRet (dCall g__law_one_of (dCons (dVar 0) (dCons (dFrz (dLst (dCons (dBin oAdd (dVar 1) (dC (.int 1))) (dCons (dBin oSub (dVar 1) (dC (.int 1))) (dCons (dUn oNeg (dVar 1)) (dCons (dC (.int 0)) (dCons (dC (.str "1")) (dCons (dTup (dCons (dVar 1) dNil)) dNil)))))))) dNil)))))))
def r__law_bent : Nat → FnT
  | 0 => fun _ _ => none
  | n + 1 => h__law_bent (r__law_bent n)
abbrev g__law_bent : FnT := r__law_bent 31
def g__law_says : FnT := dFun 2
  (sSeq (sIf (tTru (dVar 1)) (sRet (dBin oIs (dVar 0) (dC (.bool true)))) sNil)
  (sRet (dBin oIs (dVar 0) (dC (.bool false)))))
def g__law_is_int : FnT := dFun 1
  (sRet (dAnd (dUn (oIsi "int") (dVar 0)) (dUn oNot (dUn (oIsi "bool") (dVar 0)))))
def g__law_units : FnT := dFun 6
  (sSeq (sAsg 3 (dLst dNil))
  (sSeq (sFor (iRng (dCons (dVar 2) dNil)) (gNm 4) (sExpr (dMethW "list" wAppend (dVar 3) (dCons (dCB bSum (dCons (dFrz (dComp (iSeq (dVar 0)) (gNm 5) [5] (tVal (dBin oEq (dBin oIx (dVar 5) (dVar 1)) (dVar 4))) (dBin oIx (dVar 5) (dC (.int 2))))) dNil)) dNil))))
  (sRet (dVar 3))))
def g__law_is_tie : FnT := dFun 7
  (sSeq (sIf (tOr_ (tNot_ (tTru (dUn (oIsi "tuple") (dVar 0)))) (tVal (dBin oEq (dVar 0) (dTup dNil)))) (sRet (dC (.bool false))) sNil)
  (sSeq (sFor (iSeq (dVar 0)) (gNm 3) (sSeq (sIf (tOr_ (tNot_ (tTru (dUn (oIsi "tuple") (dVar 3)))) (tOr_ (tVal (dBin oNe (dCB bLen (dCons (dVar 3) dNil)) (dC (.int 3)))) (tNot_ (tTru (dCB bAll (dCons (dFrz (dComp (iSeq (dVar 3)) (gNm 6) [6] tYes_ (dCall g__law_is_int (dCons (dVar 6) dNil)))) dNil)))))) (sRet (dC (.bool false))) sNil)
  (sIf (tOr_ (tVal (dBin oLt (dBin oIx (dVar 3) (dC (.int 0))) (dC (.int 0)))) (tOr_ (tVal (dBin oGe (dBin oIx (dVar 3) (dC (.int 0))) (dVar 1))) (tOr_ (tVal (dBin oLt (dBin oIx (dVar 3) (dC (.int 1))) (dC (.int 0)))) (tOr_ (tVal (dBin oGe (dBin oIx (dVar 3) (dC (.int 1))) (dVar 2))) (tVal (dBin oLt (dBin oIx (dVar 3) (dC (.int 2))) (dC (.int 1)))))))) (sRet (dC (.bool false))) sNil)))
  (sSeq (sFor (iRng (dCons (dBin oSub (dCB bLen (dCons (dVar 0) dNil)) (dC (.int 1))) dNil)) (gNm 4) (sIf (tVal (dBin oGe (dSl (dBin oIx (dVar 0) (dVar 4)) oN (oS (dC (.int 2)))) (dSl (dBin oIx (dVar 0) (dBin oAdd (dVar 4) (dC (.int 1)))) oN (oS (dC (.int 2)))))) (sRet (dC (.bool false))) sNil))
  (sSeq (sFor (iSeq (dFrz (dLst (dCons (dCall g__law_units (dCons (dVar 0) (dCons (dC (.int 0)) (dCons (dVar 1) dNil)))) (dCons (dCall g__law_units (dCons (dVar 0) (dCons (dC (.int 1)) (dCons (dVar 2) dNil)))) dNil))))) (gNm 5) (sIf (tTru (dCB bAny (dCons (dFrz (dComp (iSeq (dVar 5)) (gNm 6) [6] tYes_ (dOr (dBin oNe (dVar 6) (dBin oIx (dVar 5) (dC (.int 0)))) (dBin oLt (dVar 6) (dC (.int 1)))))) dNil))) (sRet (dC (.bool false))) sNil))
  (sRet (dC (.bool true)))))))
def b_law : DS :=
  (sSeq (sAsg 2 (dBin oAdd (dC (.int 1)) (dCall g__law_draw (dCons (dVar 1) (dCons (dC (.int 6)) dNil)))))
  (sSeq (sAsg 3 (dBin oAdd (dC (.int 1)) (dCall g__law_draw (dCons (dVar 1) (dCons (dC (.int 6)) dNil)))))
  (sSeq (sAsg 4 (dCall g__law_some_tie (dCons (dVar 1) (dCons (dVar 2) (dCons (dVar 3) dNil)))))
  (sSeq (sIf (tVal (dBin oIsNot (dCall g_is_tie (dCons (dVar 4) (dCons (dVar 2) (dCons (dVar 3) dNil)))) (dC (.bool true)))) (sRet (dC (.bool false))) sNil)
  (sSeq (sAsg 5 (dLst (dCons (dTup dNil) (dCons (dC (.int 7)) (dCons (dC (.str "tie")) (dCons (dSl (dVar 4) (oS (dC (.int 1))) oN) (dCons (dBin oAdd (dVar 4) (dSl (dVar 4) oN (oS (dC (.int 1))))) (dCons (dUn oRev (dVar 4)) (dCons (dTup (dCons (dVar 4) dNil)) (dCons (dBin oAdd (dVar 4) (dTup (dCons (dTup (dCons (dVar 2) (dCons (dC (.int 0)) (dCons (dC (.int 1)) dNil)))) dNil))) (dCons (dBin oAdd (dVar 4) (dTup (dCons (dTup (dCons (dC (.int 0)) (dCons (dVar 3) (dCons (dC (.int 1)) dNil)))) dNil))) dNil)))))))))))
  (sSeq (sAsg 5 (dBin oAdd (dVar 5) (dFrz (dLst (dCons (dCB bTuple (dCons (dFrz (dComp (iSeq (dVar 4)) (gNm 9) [9] tYes_ (dBin oAdd (dSl (dVar 9) oN (oS (dC (.int 2)))) (dTup (dCons (dBin oMul (dC (.int 3)) (dBin oIx (dVar 9) (dC (.int 2)))) dNil))))) dNil)) (dCons (dCB bTuple (dCons (dFrz (dComp (iSeq (dVar 4)) (gNm 9) [9] tYes_ (dSl (dVar 9) oN (oS (dC (.int 2)))))) dNil)) dNil))))))
  (sSeq (sExpr (dMethW "list" wAppend (dVar 5) (dCons (dCB bTuple (dCons (dFrz (dComp (iSeq (dVar 4)) (gNm 9) [9] tYes_ (dTup (dCons (dBin oIx (dVar 9) (dC (.int 1))) (dCons (dBin oIx (dVar 9) (dC (.int 0))) (dCons (dBin oIx (dVar 9) (dC (.int 2))) dNil)))))) dNil)) dNil)))
  (sSeq (sFor (iRng (dCons (dC (.int 10)) dNil)) (gNm 6) (sExpr (dMethW "list" wAppend (dVar 5) (dCons (dCall g__law_bent (dCons (dVar 1) (dCons (dVar 4) (dCons (dC (.int 0)) dNil)))) dNil))))
  (sSeq (sFor (iSeq (dVar 5)) (gNm 7) (sIf (tNot_ (tTru (dCall g__law_says (dCons (dCall g_is_tie (dCons (dVar 7) (dCons (dVar 2) (dCons (dVar 3) dNil)))) (dCons (dCall g__law_is_tie (dCons (dVar 7) (dCons (dVar 2) (dCons (dVar 3) dNil)))) dNil))))) (sRet (dC (.bool false))) sNil))
  (sSeq (sAsg 8 (dBin oAdd (dC (.int 1)) (dCall g__law_draw (dCons (dVar 1) (dCons (dC (.int 6)) dNil)))))
  (sRet (dCall g__law_says (dCons (dCall g_is_tie (dCons (dVar 4) (dCons (dVar 2) (dCons (dVar 8) dNil)))) (dCons (dCall g__law_is_tie (dCons (dVar 4) (dCons (dVar 2) (dCons (dVar 8) dNil)))) dNil))))))))))))))
section
variable {P : Program} {w : World} {K : PySem.W.Frag} {mg : Str → Option Value} {base : Heap}
theorem D_is_integer (G : Gs K mg) : Def P w K mg base 1 "is_integer" 1 g_is_integer := by
  obtain ⟨f, fd, F, hm⟩ := G.f_is_integer
  refine ⟨f, fd, _, fn_ok (k := 0) F S_is_integer (hb := fun cdv A outer s H E hr => ?_), hm, F.kp, F.bindsN fun _ _ _ _ _ _ us hl => match us, hl with | [_], _ => rfl⟩
  exact (pds_one (pds_ret (pd_and (pd_isi "int" kit_int rfl G.n_isinstance rfl G.n_int (by decide +kernel) (pd_var 0)) (pd_one (pd_not (pd_isi "bool" kit_bool rfl G.n_isinstance rfl G.n_bool (by decide +kernel) (pd_var 0)))))))
theorem D_is_tuple (G : Gs K mg) : Def P w K mg base 1 "is_tuple" 2 g_is_tuple := by
  obtain ⟨f, fd, F, hm⟩ := G.f_is_tuple
  refine ⟨f, fd, _, fn_ok (k := 0) F S_is_tuple (hb := fun cdv A outer s H E hr => ?_), hm, F.kp, F.bindsN fun _ _ _ _ _ _ us hl => match us, hl with | [_, _], _ => rfl⟩
  exact (pds_one (pds_ret (pd_and (pd_isi "tuple" kit_tuple rfl G.n_isinstance rfl G.n_tuple (by decide +kernel) (pd_var 0)) (pd_one (pd_cm (c_eq hr) (pd_len rfl G.n_len (pda_cons (pd_var 0) pda_nil)) (pd_var 1))))))
theorem D_sums_by (G : Gs K mg) : Def P w K mg base 1 "sums_by" 3 g_sums_by := by
  obtain ⟨f, fd, F, hm⟩ := G.f_sums_by
  refine ⟨f, fd, _, fn_ok (k := 0) F S_sums_by (hb := fun cdv A outer s H E hr => ?_), hm, F.kp, F.bindsN fun _ _ _ _ _ _ us hl => match us, hl with | [_, _, _], _ => rfl⟩
  exact (pds_cons (pds_set 3 (pd_mul (pd_frz (pd_lst (pda_cons pd_int pda_nil))) (pd_var 2)) S_sums_by.nd)
  (pds_cons (pds_for PassesOwn.never rfl (pdi_seq (pd_var 0)) ((pdg_name 4 S_sums_by.nd) : PDG _ _ [4] _) (pds_one (pds_augSub hr ip_iadd r2_iadd (pd_var 3) (pd_ix hr (pd_var 4) (pd_var 1)) (pd_ix hr (pd_var 4) pd_int))))
  (pds_one (pds_ret (pd_var 3)))))
theorem D_is_row (G : Gs K mg) : Def P w K mg base 2 "is_row" 3 g_is_row := by
  obtain ⟨f, fd, F, hm⟩ := G.f_is_row
  refine ⟨f, fd, _, fn_ok (k := 1) F S_is_row (hb := fun cdv A outer s H E hr => ?_), hm, F.kp, F.bindsN fun _ _ _ _ _ _ us hl => match us, hl with | [_, _, _], _ => rfl⟩
  exact (pds_cons (pds_if (pdt_w (pdw_or (pdt_not (pdt_tru (pd_call (D_is_tuple G) hr rfl (pda_cons (pd_var 0) (pda_cons pd_int pda_nil)) dlen2))) (pdw_or1 (pdt_not (pdt_tru (pd_all rfl rfl G.n_all (pda_cons (pd_frz (pd_compq [("one", 3)] rfl S_is_row.nd (pdi_seq (pd_var 0)) (blkOk_by (by kernel_rfl)) (fun _ _ _ _ _ => ((pdg_name 3 S_is_row.nd) : PDG _ _ [3] _)) (fun _ _ _ _ _ => pdts_nil) (fun _ _ _ _ _ => (pd_call (D_is_integer G) hr rfl (pda_cons (pd_var 3) pda_nil) dlen1)))) pda_nil))))))) (pds_one (pds_ret pd_bl)) pds_nil)
  (pds_one (pds_ret (pd_and (pd_ch (c_le hr) (c_lt hr) pd_int (pd_ix hr (pd_var 0) pd_int) (pd_var 1)) (pd_and (pd_ch (c_le hr) (c_lt hr) pd_int (pd_ix hr (pd_var 0) pd_int) (pd_var 2)) (pd_one (pd_cm (c_gt hr) (pd_ix hr (pd_var 0) pd_int) pd_int)))))))
theorem D_are_even (G : Gs K mg) : Def P w K mg base 1 "are_even" 1 g_are_even := by
  obtain ⟨f, fd, F, hm⟩ := G.f_are_even
  refine ⟨f, fd, _, fn_ok (k := 0) F S_are_even (hb := fun cdv A outer s H E hr => ?_), hm, F.kp, F.bindsN fun _ _ _ _ _ _ us hl => match us, hl with | [_], _ => rfl⟩
  exact (pds_one (pds_ret (pd_and (pd_cm (c_gt hr) (pd_ix hr (pd_var 0) pd_int) pd_int) (pd_one (pd_all rfl rfl G.n_all (pda_cons (pd_frz (pd_compq [("one", 1)] rfl S_are_even.nd (pdi_seq (pd_var 0)) (blkOk_by (by kernel_rfl)) (fun _ _ _ _ _ => ((pdg_name 1 S_are_even.nd) : PDG _ _ [1] _)) (fun _ _ _ _ _ => pdts_nil) (fun _ _ _ _ _ => (pd_cm (c_eq hr) (pd_var 1) (pd_ix hr (pd_var 0) pd_int))))) pda_nil))))))
theorem D_is_tie (G : Gs K mg) : Def P w K mg base 3 "is_tie" 3 g_is_tie := by
  obtain ⟨f, fd, F, hm⟩ := G.f_is_tie
  refine ⟨f, fd, _, fn_ok (k := 2) F S_is_tie (hb := fun cdv A outer s H E hr => ?_), hm, F.kp, F.bindsN fun _ _ _ _ _ _ us hl => match us, hl with | [_, _, _], _ => rfl⟩
  exact (pds_cons (pds_if (pdt_w (pdw_or (pdt_not (pdt_tru (pd_isi "tuple" kit_tuple rfl G.n_isinstance rfl G.n_tuple (by decide +kernel) (pd_var 0)))) (pdw_or (pdt_cm (c_eq hr) (pd_var 0) (pd_tup pda_nil)) (pdw_or1 (pdt_not (pdt_tru (pd_all rfl rfl G.n_all (pda_cons (pd_frz (pd_compq [("row", 3)] rfl S_is_tie.nd (pdi_seq (pd_var 0)) (blkOk_by (by kernel_rfl)) (fun _ _ _ _ _ => ((pdg_name 3 S_is_tie.nd) : PDG _ _ [3] _)) (fun _ _ _ _ _ => pdts_nil) (fun _ _ _ _ _ => (pd_call (D_is_row G) hr rfl (pda_cons (pd_var 3) (pda_cons (pd_var 1) (pda_cons (pd_var 2) pda_nil))) dlen3)))) pda_nil)))))))) (pds_one (pds_ret pd_bl)) pds_nil)
  (pds_cons (pds_if (pdt_not (pdt_tru (pd_all rfl rfl G.n_all (pda_cons (pd_frz (pd_compq [("one", 4), ("other", 5)] rfl S_is_tie.nd (pdi_zip rfl G.n_zip (pda_cons (pd_var 0) (pda_cons (pd_sl (pd_var 0) (pdo_some pd_int) pdo_none) pda_nil))) (blkOk_by (by kernel_rfl)) (fun _ _ _ _ _ => ((pdg_tup rfl (pdgs_cons (pdg_name 4 S_is_tie.nd) (pdgs_cons (pdg_name 5 S_is_tie.nd) pdgs_nil))) : PDG _ _ [4, 5] _)) (fun _ _ _ _ _ => pdts_nil) (fun _ _ _ _ _ => (pd_cm (c_lt hr) (pd_sl (pd_var 4) pdo_none (pdo_some pd_int)) (pd_sl (pd_var 5) pdo_none (pdo_some pd_int)))))) pda_nil)))) (pds_one (pds_ret pd_bl)) pds_nil)
  (pds_one (pds_ret (pd_and (pd_call (D_are_even G) hr rfl (pda_cons (pd_call (D_sums_by G) hr rfl (pda_cons (pd_var 0) (pda_cons pd_int (pda_cons (pd_var 1) pda_nil))) dlen3) pda_nil) dlen1) (pd_one (pd_call (D_are_even G) hr rfl (pda_cons (pd_call (D_sums_by G) hr rfl (pda_cons (pd_var 0) (pda_cons pd_int (pda_cons (pd_var 2) pda_nil))) dlen3) pda_nil) dlen1)))))))
theorem D__law_draw (G : Gs K mg) : Def P w K mg base 1 "_law_draw" 2 g__law_draw := by
  obtain ⟨f, fd, F, hm⟩ := G.f__law_draw
  refine ⟨f, fd, _, fn_ok (k := 0) F S__law_draw (hb := fun cdv A outer s H E hr => ?_), hm, F.kp, F.bindsN fun _ _ _ _ _ _ us hl => match us, hl with | [_, _], _ => rfl⟩
  exact (pds_cons (pds_sub hr (pd_add (pd_ix hr (pd_var 0) pd_int) pd_int) (pd_var 0) pd_int)
  (pds_cons (pds_if (pdt_cm (c_gt hr) (pd_ix hr (pd_var 0) pd_int) pd_int) (pds_cons (pds_set 2 (pd_mod (pd_int1 rfl G.n_int (pda_cons (pd_ix hr (pd_var 0) pd_int) pda_nil)) (pd_var 1)) S__law_draw.nd)
  (pds_cons (pds_sub hr (pd_div (pd_ix hr (pd_var 0) pd_int) (pd_var 1)) (pd_var 0) pd_int)
  (pds_one (pds_ret (pd_var 2))))) pds_nil)
  (pds_cons (pds_set 3 pd_int S__law_draw.nd)
  (pds_cons (pds_if (pdt_cm (c_gt hr) (pd_len rfl G.n_len (pda_cons (pd_ix hr (pd_var 0) pd_int) pda_nil)) pd_int) (pds_one (pds_set 3 (pd_abs rfl G.n_abs (pda_cons (pd_ix hr (pd_ix hr (pd_var 0) pd_int) (pd_mod (pd_int1 rfl G.n_int (pda_cons (pd_ix hr (pd_var 0) pd_int) pda_nil)) (pd_len rfl G.n_len (pda_cons (pd_ix hr (pd_var 0) pd_int) pda_nil)))) pda_nil)) S__law_draw.nd)) pds_nil)
  (pds_cons (pds_sub hr (pd_add (pd_ix hr (pd_var 0) pd_int) pd_int) (pd_var 0) pd_int)
  (pds_cons (pds_if (pdt_cm (c_ge hr) (pd_var 3) (pd_pow pd_int pd_int)) (pds_cons (pds_sub hr (pd_div (pd_var 3) (pd_var 1)) (pd_var 0) pd_int)
  (pds_one (pds_ret (pd_mod (pd_int1 rfl G.n_int (pda_cons (pd_var 3) pda_nil)) (pd_var 1))))) pds_nil)
  (pds_cons (pds_set 4 (pd_mod (pd_int1 rfl G.n_int (pda_cons (pd_add (pd_mul (pd_add (pd_var 3) pd_int) pd_int) (pd_mul (pd_ix hr (pd_var 0) pd_int) pd_int)) pda_nil)) pd_int) S__law_draw.nd)
  (pds_cons (pds_set 4 (pd_mod (pd_int1 rfl G.n_int (pda_cons (pd_add (pd_add (pd_mul (pd_var 4) pd_int) (pd_div (pd_var 3) pd_int)) (pd_ix hr (pd_var 0) pd_int)) pda_nil)) pd_int) S__law_draw.nd)
  (pds_one (pds_ret (pd_mod (pd_div (pd_var 4) pd_int) (pd_var 1))))))))))))
theorem D__law_shuffled (G : Gs K mg) : Def P w K mg base 2 "_law_shuffled" 2 g__law_shuffled := by
  obtain ⟨f, fd, F, hm⟩ := G.f__law_shuffled
  refine ⟨f, fd, _, fn_ok (k := 1) F S__law_shuffled (hb := fun cdv A outer s H E hr => ?_), hm, F.kp, F.bindsN fun _ _ _ _ _ _ us hl => match us, hl with | [_, _], _ => rfl⟩
  exact (pds_cons (pds_set 2 (pd_lst pda_nil) S__law_shuffled.nd)
  (pds_cons (pds_for PassesOwn.never rfl (pdi_seq (pd_var 1)) ((pdg_name 3 S__law_shuffled.nd) : PDG _ _ [3] _) (pds_one (pds_expr (pd_insert (pd_var 2) (pda_cons (pd_call (D__law_draw G) hr rfl (pda_cons (pd_var 0) (pda_cons (pd_add (pd_len rfl G.n_len (pda_cons (pd_var 2) pda_nil)) pd_int) pda_nil)) dlen2) (pda_cons (pd_var 3) pda_nil))))))
  (pds_one (pds_ret (pd_var 2)))))
theorem D__law_some_tie (G : Gs K mg) : Def P w K mg base 3 "_law_some_tie" 3 g__law_some_tie := by
  obtain ⟨f, fd, F, hm⟩ := G.f__law_some_tie
  refine ⟨f, fd, _, fn_ok (k := 2) F S__law_some_tie (hb := fun cdv A outer s H E hr => ?_), hm, F.kp, F.bindsN fun _ _ _ _ _ _ us hl => match us, hl with | [_, _, _], _ => rfl⟩
  exact (pds_cons (pds_set 3 pd_dictN S__law_some_tie.nd)
  (pds_cons (pds_for PassesOwn.never rfl (pdi_rng1 rfl G.n_range (pda_cons (pd_add pd_int (pd_call (D__law_draw G) hr rfl (pda_cons (pd_var 0) (pda_cons pd_int pda_nil)) dlen2)) pda_nil) (hl := dlen1)) ((pdg_name 4 S__law_some_tie.nd) : PDG _ _ [4] _) (pds_cons (pds_set 5 (pd_call (D__law_shuffled G) hr rfl (pda_cons (pd_var 0) (pda_cons (pd_frz (pd_mul (pd_frz (pd_lstRg1 rfl rfl G.n_list rfl G.n_range (pd_var 1))) (pd_var 2))) pda_nil)) dlen2) S__law_some_tie.nd)
  (pds_cons (pds_set 6 (pd_frz (pd_mul (pd_frz (pd_lstRg1 rfl rfl G.n_list rfl G.n_range (pd_var 2))) (pd_var 1))) S__law_some_tie.nd)
  (pds_one (pds_for PassesOwn.never rfl (pdi_rng1 rfl G.n_range (pda_cons (pd_len rfl G.n_len (pda_cons (pd_var 5) pda_nil)) pda_nil) (hl := dlen1)) ((pdg_name 7 S__law_some_tie.nd) : PDG _ _ [7] _) (pds_one (pds_sub hr (pd_add (pd_get2 hr (pd_var 3) (pda_cons (pd_tup (pda_cons (pd_ix hr (pd_var 5) (pd_var 7)) (pda_cons (pd_ix hr (pd_var 6) (pd_var 7)) pda_nil))) (pda_cons pd_int pda_nil))) pd_int) (pd_var 3) (pd_tup (pda_cons (pd_ix hr (pd_var 5) (pd_var 7)) (pda_cons (pd_ix hr (pd_var 6) (pd_var 7)) pda_nil))))))))))
  (pds_one (pds_ret (pd_tupleOf rfl G.n_tuple (pda_cons (pd_frz (pd_compq [("pair", 8)] rfl S__law_some_tie.nd (pdi_seq (pd_frz (pd_sorted hr rfl rfl G.n_sorted (pda_cons (pd_var 3) pda_nil)))) (blkOk_by (by kernel_rfl)) (fun _ _ _ _ _ => ((pdg_name 8 S__law_some_tie.nd) : PDG _ _ [8] _)) (fun _ _ _ _ _ => pdts_nil) (fun _ _ _ _ _ => (pd_add (pd_var 8) (pd_tup (pda_cons (pd_ix hr (pd_var 3) (pd_var 8)) pda_nil)))))) pda_nil))))))
theorem D__law_one_of (G : Gs K mg) : Def P w K mg base 2 "_law_one_of" 2 g__law_one_of := by
  obtain ⟨f, fd, F, hm⟩ := G.f__law_one_of
  refine ⟨f, fd, _, fn_ok (k := 1) F S__law_one_of (hb := fun cdv A outer s H E hr => ?_), hm, F.kp, F.bindsN fun _ _ _ _ _ _ us hl => match us, hl with | [_, _], _ => rfl⟩
  exact (pds_one (pds_ret (pd_ix hr (pd_var 1) (pd_call (D__law_draw G) hr rfl (pda_cons (pd_var 0) (pda_cons (pd_len rfl G.n_len (pda_cons (pd_var 1) pda_nil)) pda_nil)) dlen2))))
theorem R__law_bent (G : Gs K mg) : ∀ n, Def P w K mg base (3 + n) "_law_bent" 3 (r__law_bent n)
  | 0 => by
    obtain ⟨f, fd, F, hm⟩ := G.f__law_bent
    exact ⟨f, fd, _, (fn_ok (k := 2) F S__law_bent (db := fun _ _ => none) (hb := fun _ _ _ _ _ _ _ => pdss_none)), hm, F.kp, F.bindsN fun _ _ _ _ _ _ us hl => match us, hl with | [_, _, _], _ => rfl⟩
  | m + 1 => by
    obtain ⟨f, fd, F, hm⟩ := G.f__law_bent
    have Dr := R__law_bent G m
    refine ⟨f, fd, _, fn_ok (k := 3 + m) F S__law_bent (hb := fun cdv A outer s H E hr0 => ?_), hm, F.kp, F.bindsN fun _ _ _ _ _ _ us hl => match us, hl with | [_, _, _], _ => rfl⟩
    have hr := hr0
    exact (pds_cons (pds_if (pdt_w (pdw_and (pdt_tru (pd_isi "tuple" kit_tuple rfl G.n_isinstance rfl G.n_tuple (by decide +kernel) (pd_var 1))) (pdw_and (pdt_cm (c_gt hr) (pd_len rfl G.n_len (pda_cons (pd_var 1) pda_nil)) pd_int) (pdw_and (pdt_cm (c_lt hr) (pd_var 2) pd_int) (pdw_and1 (pdt_cm (c_gt hr) (pd_call (D__law_draw G) hr rfl (pda_cons (pd_var 0) (pda_cons pd_int pda_nil)) dlen2 (hjk := by omega)) pd_int)))))) (pds_cons (pds_set 3 (pd_call (D__law_draw G) hr rfl (pda_cons (pd_var 0) (pda_cons (pd_len rfl G.n_len (pda_cons (pd_var 1) pda_nil)) pda_nil)) dlen2 (hjk := by omega)) S__law_bent.nd)
  (pds_one (pds_ret (pd_add (pd_add (pd_sl (pd_var 1) pdo_none (pdo_some (pd_var 3))) (pd_tup (pda_cons (pd_call Dr hr rfl (pda_cons (pd_var 0) (pda_cons (pd_ix hr (pd_var 1) (pd_var 3)) (pda_cons (pd_add (pd_var 2) pd_int) pda_nil))) dlen3 (hjk := by omega)) pda_nil))) (pd_sl (pd_var 1) (pdo_some (pd_add (pd_var 3) pd_int)) pdo_none))))) pds_nil)
  (pds_cons (pds_if (pdt_tru (pd_isi "tuple" kit_tuple rfl G.n_isinstance rfl G.n_tuple (by decide +kernel) (pd_var 1))) (pds_cons (pds_set 3 (pd_call (D__law_draw G) hr rfl (pda_cons (pd_var 0) (pda_cons (pd_add (pd_len rfl G.n_len (pda_cons (pd_var 1) pda_nil)) pd_int) pda_nil)) dlen2 (hjk := by omega)) S__law_bent.nd)
  (pds_cons (pds_set 4 (pd_frz (pd_lst (pda_cons (pd_add (pd_sl (pd_var 1) pdo_none (pdo_some (pd_var 3))) (pd_sl (pd_var 1) (pdo_some (pd_add (pd_var 3) pd_int)) pdo_none)) (pda_cons (pd_add (pd_add (pd_sl (pd_var 1) pdo_none (pdo_some (pd_var 3))) (pd_sl (pd_var 1) (pdo_some (pd_var 3)) (pdo_some (pd_add (pd_var 3) pd_int)))) (pd_sl (pd_var 1) (pdo_some (pd_var 3)) pdo_none)) (pda_cons (pd_add (pd_var 1) (pd_tup (pda_cons pd_int pda_nil))) (pda_cons (pd_tup pda_nil) pda_nil)))))) S__law_bent.nd)
  (pds_one (pds_ret (pd_call (D__law_one_of G) hr rfl (pda_cons (pd_var 0) (pda_cons (pd_frz (pd_add (pd_var 4) (pd_frz (pd_lst (pda_cons (pd_add (pd_sl (pd_var 1) (pdo_some (pd_var 3)) pdo_none) (pd_sl (pd_var 1) pdo_none (pdo_some (pd_var 3)))) (pda_cons (pd_rev (pd_var 1)) (pda_cons pd_str pda_nil))))))) pda_nil)) dlen2 (hjk := by omega)))))) pds_nil)
  (pds_cons (pds_if (pdt_tru (pd_isi "str" kit_str rfl G.n_isinstance rfl G.n_str (by decide +kernel) (pd_var 1))) (pds_one (pds_ret (pd_call (D__law_one_of G) hr rfl (pda_cons (pd_var 0) (pda_cons (pd_frz (pd_lst (pda_cons pd_str (pda_cons pd_str (pda_cons pd_str (pda_cons pd_str (pda_cons (pd_add (pd_var 1) pd_str) (pda_cons (pd_sl (pd_var 1) (pdo_some pd_int) pdo_none) (pda_cons pd_int pda_nil))))))))) pda_nil)) dlen2 (hjk := by omega)))) pds_nil)
  (pds_one (pds_ret (pd_call (D__law_one_of G) hr rfl (pda_cons (pd_var 0) (pda_cons (pd_frz (pd_lst (pda_cons (pd_add (pd_var 1) pd_int) (pda_cons (pd_sub (pd_var 1) pd_int) (pda_cons (pd_neg (pd_var 1)) (pda_cons pd_int (pda_cons pd_str (pda_cons (pd_tup (pda_cons (pd_var 1) pda_nil)) pda_nil)))))))) pda_nil)) dlen2 (hjk := by omega)))))))
theorem D__law_bent (G : Gs K mg) : Def P w K mg base 34 "_law_bent" 3 g__law_bent := R__law_bent G 31
theorem D__law_says (G : Gs K mg) : Def P w K mg base 1 "_law_says" 2 g__law_says := by
  obtain ⟨f, fd, F, hm⟩ := G.f__law_says
  refine ⟨f, fd, _, fn_ok (k := 0) F S__law_says (hb := fun cdv A outer s H E hr => ?_), hm, F.kp, F.bindsN fun _ _ _ _ _ _ us hl => match us, hl with | [_, _], _ => rfl⟩
  exact (pds_cons (pds_if (pdt_tru (pd_var 1)) (pds_one (pds_ret (pd_cm c_is (pd_var 0) pd_bl))) pds_nil)
  (pds_one (pds_ret (pd_cm c_is (pd_var 0) pd_bl))))
theorem D__law_is_int (G : Gs K mg) : Def P w K mg base 1 "_law_is_int" 1 g__law_is_int := by
  obtain ⟨f, fd, F, hm⟩ := G.f__law_is_int
  refine ⟨f, fd, _, fn_ok (k := 0) F S__law_is_int (hb := fun cdv A outer s H E hr => ?_), hm, F.kp, F.bindsN fun _ _ _ _ _ _ us hl => match us, hl with | [_], _ => rfl⟩
  exact (pds_one (pds_ret (pd_and (pd_isi "int" kit_int rfl G.n_isinstance rfl G.n_int (by decide +kernel) (pd_var 0)) (pd_one (pd_not (pd_isi "bool" kit_bool rfl G.n_isinstance rfl G.n_bool (by decide +kernel) (pd_var 0)))))))
theorem D__law_units (G : Gs K mg) : Def P w K mg base 1 "_law_units" 3 g__law_units := by
  obtain ⟨f, fd, F, hm⟩ := G.f__law_units
  refine ⟨f, fd, _, fn_ok (k := 0) F S__law_units (hb := fun cdv A outer s H E hr => ?_), hm, F.kp, F.bindsN fun _ _ _ _ _ _ us hl => match us, hl with | [_, _, _], _ => rfl⟩
  exact (pds_cons (pds_set 3 (pd_lst pda_nil) S__law_units.nd)
  (pds_cons (pds_for PassesOwn.never rfl (pdi_rng1 rfl G.n_range (pda_cons (pd_var 2) pda_nil) (hl := dlen1)) ((pdg_name 4 S__law_units.nd) : PDG _ _ [4] _) (pds_one (pds_expr (pd_append (pd_var 3) (pda_cons (pd_sum rfl rfl G.n_sum (pda_cons (pd_frz (pd_compq [("row", 5)] rfl S__law_units.nd (pdi_seq (pd_var 0)) (blkOk_by (by kernel_rfl)) (fun _ _ _ _ _ => ((pdg_name 5 S__law_units.nd) : PDG _ _ [5] _)) (fun _ _ _ _ _ => (pdts_one (pdt_cm (c_eq hr) (pd_ix hr (pd_var 5) (pd_var 1)) (pd_var 4)))) (fun _ _ _ _ _ => (pd_ix hr (pd_var 5) pd_int)))) pda_nil)) pda_nil)))))
  (pds_one (pds_ret (pd_var 3)))))
theorem D__law_is_tie (G : Gs K mg) : Def P w K mg base 2 "_law_is_tie" 3 g__law_is_tie := by
  obtain ⟨f, fd, F, hm⟩ := G.f__law_is_tie
  refine ⟨f, fd, _, fn_ok (k := 1) F S__law_is_tie (hb := fun cdv A outer s H E hr => ?_), hm, F.kp, F.bindsN fun _ _ _ _ _ _ us hl => match us, hl with | [_, _, _], _ => rfl⟩
  exact (pds_cons (pds_if (pdt_w (pdw_or (pdt_not (pdt_tru (pd_isi "tuple" kit_tuple rfl G.n_isinstance rfl G.n_tuple (by decide +kernel) (pd_var 0)))) (pdw_or1 (pdt_cm (c_eq hr) (pd_var 0) (pd_tup pda_nil))))) (pds_one (pds_ret pd_bl)) pds_nil)
  (pds_cons (pds_for PassesOwn.never rfl (pdi_seq (pd_var 0)) ((pdg_name 3 S__law_is_tie.nd) : PDG _ _ [3] _) (pds_cons (pds_if (pdt_w (pdw_or (pdt_not (pdt_tru (pd_isi "tuple" kit_tuple rfl G.n_isinstance rfl G.n_tuple (by decide +kernel) (pd_var 3)))) (pdw_or (pdt_cm (c_ne hr) (pd_len rfl G.n_len (pda_cons (pd_var 3) pda_nil)) pd_int) (pdw_or1 (pdt_not (pdt_tru (pd_all rfl rfl G.n_all (pda_cons (pd_frz (pd_compq [("x", 6)] rfl S__law_is_tie.nd (pdi_seq (pd_var 3)) (blkOk_by (by kernel_rfl)) (fun _ _ _ _ _ => ((pdg_name 6 S__law_is_tie.nd) : PDG _ _ [6] _)) (fun _ _ _ _ _ => pdts_nil) (fun _ _ _ _ _ => (pd_call (D__law_is_int G) hr rfl (pda_cons (pd_var 6) pda_nil) dlen1)))) pda_nil)))))))) (pds_one (pds_ret pd_bl)) pds_nil)
  (pds_one (pds_if (pdt_w (pdw_or (pdt_cm (c_lt hr) (pd_ix hr (pd_var 3) pd_int) pd_int) (pdw_or (pdt_cm (c_ge hr) (pd_ix hr (pd_var 3) pd_int) (pd_var 1)) (pdw_or (pdt_cm (c_lt hr) (pd_ix hr (pd_var 3) pd_int) pd_int) (pdw_or (pdt_cm (c_ge hr) (pd_ix hr (pd_var 3) pd_int) (pd_var 2)) (pdw_or1 (pdt_cm (c_lt hr) (pd_ix hr (pd_var 3) pd_int) pd_int))))))) (pds_one (pds_ret pd_bl)) pds_nil))))
  (pds_cons (pds_for PassesOwn.never rfl (pdi_rng1 rfl G.n_range (pda_cons (pd_sub (pd_len rfl G.n_len (pda_cons (pd_var 0) pda_nil)) pd_int) pda_nil) (hl := dlen1)) ((pdg_name 4 S__law_is_tie.nd) : PDG _ _ [4] _) (pds_one (pds_if (pdt_cm (c_ge hr) (pd_sl (pd_ix hr (pd_var 0) (pd_var 4)) pdo_none (pdo_some pd_int)) (pd_sl (pd_ix hr (pd_var 0) (pd_add (pd_var 4) pd_int)) pdo_none (pdo_some pd_int))) (pds_one (pds_ret pd_bl)) pds_nil)))
  (pds_cons (pds_for PassesOwn.never rfl (pdi_seq (pd_frz (pd_lst (pda_cons (pd_call (D__law_units G) hr rfl (pda_cons (pd_var 0) (pda_cons pd_int (pda_cons (pd_var 1) pda_nil))) dlen3) (pda_cons (pd_call (D__law_units G) hr rfl (pda_cons (pd_var 0) (pda_cons pd_int (pda_cons (pd_var 2) pda_nil))) dlen3) pda_nil))))) ((pdg_name 5 S__law_is_tie.nd) : PDG _ _ [5] _) (pds_one (pds_if (pdt_tru (pd_any rfl rfl G.n_any (pda_cons (pd_frz (pd_compq [("x", 6)] rfl S__law_is_tie.nd (pdi_seq (pd_var 5)) (blkOk_by (by kernel_rfl)) (fun _ _ _ _ _ => ((pdg_name 6 S__law_is_tie.nd) : PDG _ _ [6] _)) (fun _ _ _ _ _ => pdts_nil) (fun _ _ _ _ _ => (pd_or (pd_cm (c_ne hr) (pd_var 6) (pd_ix hr (pd_var 5) pd_int)) (pd_one (pd_cm (c_lt hr) (pd_var 6) pd_int)))))) pda_nil))) (pds_one (pds_ret pd_bl)) pds_nil)))
  (pds_one (pds_ret pd_bl))))))
theorem ok_law (G : Gs K mg) (hlaw : ∀ ns : List Int, ns.length ≤ 63 → ∃ Γ' M', b_law (none :: some (.ptr 0) :: List.replicate (10 - 2) none) [state0 ns] = some (.rt (.dat (.bool true)), Γ', M')) : ∃ f fd, mg "law" = some (.ref f) ∧ FnP K "law" st_law f fd ∧ FnOk P w K mg base CX0 35 f fd ["script"] (spLaw K) := by
  obtain ⟨f, fd, F, hm⟩ := G.f_law
  obtain ⟨fs, fds, Fs, hms⟩ := G.f__law_start
  refine ⟨f, fd, hm, F, law_ok (N := ["script", "state", "many", "others", "tie", "data", "turn", "datum", "other", "row"]) (k := 34) F S_law rfl rfl rfl rfl (fun _ _ => rfl) (start_ok Fs S__law_start (fun _ _ => rfl) G.n_list rfl rfl) hms Fs.kp (Fs.bindsN fun _ _ _ _ _ _ us hl => match us, hl with | [_], _ => rfl) (by decide) rfl (fun cdv A outer s H E hr => ?_) hlaw⟩
  exact (pds_cons (pds_set 2 (pd_add pd_int (pd_call (D__law_draw G) hr rfl (pda_cons (pd_var 1) (pda_cons pd_int pda_nil)) dlen2)) S_law.nd)
  (pds_cons (pds_set 3 (pd_add pd_int (pd_call (D__law_draw G) hr rfl (pda_cons (pd_var 1) (pda_cons pd_int pda_nil)) dlen2)) S_law.nd)
  (pds_cons (pds_set 4 (pd_call (D__law_some_tie G) hr rfl (pda_cons (pd_var 1) (pda_cons (pd_var 2) (pda_cons (pd_var 3) pda_nil))) dlen3) S_law.nd)
  (pds_cons (pds_if (pdt_cm c_isnot (pd_call (D_is_tie G) hr rfl (pda_cons (pd_var 4) (pda_cons (pd_var 2) (pda_cons (pd_var 3) pda_nil))) dlen3) pd_bl) (pds_one (pds_ret pd_bl)) pds_nil)
  (pds_cons (pds_set 5 (pd_lst (pda_cons (pd_tup pda_nil) (pda_cons pd_int (pda_cons pd_str (pda_cons (pd_sl (pd_var 4) (pdo_some pd_int) pdo_none) (pda_cons (pd_add (pd_var 4) (pd_sl (pd_var 4) pdo_none (pdo_some pd_int))) (pda_cons (pd_rev (pd_var 4)) (pda_cons (pd_tup (pda_cons (pd_var 4) pda_nil)) (pda_cons (pd_add (pd_var 4) (pd_tup (pda_cons (pd_tup (pda_cons (pd_var 2) (pda_cons pd_int (pda_cons pd_int pda_nil)))) pda_nil))) (pda_cons (pd_add (pd_var 4) (pd_tup (pda_cons (pd_tup (pda_cons pd_int (pda_cons (pd_var 3) (pda_cons pd_int pda_nil)))) pda_nil))) pda_nil)))))))))) S_law.nd)
  (pds_cons (pds_set 5 (pd_add (pd_var 5) (pd_frz (pd_lst (pda_cons (pd_tupleOf rfl G.n_tuple (pda_cons (pd_frz (pd_compq [("row", 9)] rfl S_law.nd (pdi_seq (pd_var 4)) (blkOk_by (by kernel_rfl)) (fun _ _ _ _ _ => ((pdg_name 9 S_law.nd) : PDG _ _ [9] _)) (fun _ _ _ _ _ => pdts_nil) (fun _ _ _ _ _ => (pd_add (pd_sl (pd_var 9) pdo_none (pdo_some pd_int)) (pd_tup (pda_cons (pd_mul pd_int (pd_ix hr (pd_var 9) pd_int)) pda_nil)))))) pda_nil)) (pda_cons (pd_tupleOf rfl G.n_tuple (pda_cons (pd_frz (pd_compq [("row", 9)] rfl S_law.nd (pdi_seq (pd_var 4)) (blkOk_by (by kernel_rfl)) (fun _ _ _ _ _ => ((pdg_name 9 S_law.nd) : PDG _ _ [9] _)) (fun _ _ _ _ _ => pdts_nil) (fun _ _ _ _ _ => (pd_sl (pd_var 9) pdo_none (pdo_some pd_int))))) pda_nil)) pda_nil))))) S_law.nd)
  (pds_cons (pds_expr (pd_append (pd_var 5) (pda_cons (pd_tupleOf rfl G.n_tuple (pda_cons (pd_frz (pd_compq [("row", 9)] rfl S_law.nd (pdi_seq (pd_var 4)) (blkOk_by (by kernel_rfl)) (fun _ _ _ _ _ => ((pdg_name 9 S_law.nd) : PDG _ _ [9] _)) (fun _ _ _ _ _ => pdts_nil) (fun _ _ _ _ _ => (pd_tup (pda_cons (pd_ix hr (pd_var 9) pd_int) (pda_cons (pd_ix hr (pd_var 9) pd_int) (pda_cons (pd_ix hr (pd_var 9) pd_int) pda_nil))))))) pda_nil)) pda_nil)))
  (pds_cons (pds_for PassesOwn.never rfl (pdi_rng1 rfl G.n_range (pda_cons pd_int pda_nil) (hl := dlen1)) ((pdg_name 6 S_law.nd) : PDG _ _ [6] _) (pds_one (pds_expr (pd_append (pd_var 5) (pda_cons (pd_call (D__law_bent G) hr rfl (pda_cons (pd_var 1) (pda_cons (pd_var 4) (pda_cons pd_int pda_nil))) dlen3) pda_nil)))))
  (pds_cons (pds_for PassesOwn.never rfl (pdi_seq (pd_var 5)) ((pdg_name 7 S_law.nd) : PDG _ _ [7] _) (pds_one (pds_if (pdt_not (pdt_tru (pd_call (D__law_says G) hr rfl (pda_cons (pd_call (D_is_tie G) hr rfl (pda_cons (pd_var 7) (pda_cons (pd_var 2) (pda_cons (pd_var 3) pda_nil))) dlen3) (pda_cons (pd_call (D__law_is_tie G) hr rfl (pda_cons (pd_var 7) (pda_cons (pd_var 2) (pda_cons (pd_var 3) pda_nil))) dlen3) pda_nil)) dlen2))) (pds_one (pds_ret pd_bl)) pds_nil)))
  (pds_cons (pds_set 8 (pd_add pd_int (pd_call (D__law_draw G) hr rfl (pda_cons (pd_var 1) (pda_cons pd_int pda_nil)) dlen2)) S_law.nd)
  (pds_one (pds_ret (pd_call (D__law_says G) hr rfl (pda_cons (pd_call (D_is_tie G) hr rfl (pda_cons (pd_var 4) (pda_cons (pd_var 2) (pda_cons (pd_var 8) pda_nil))) dlen3) (pda_cons (pd_call (D__law_is_tie G) hr rfl (pda_cons (pd_var 4) (pda_cons (pd_var 2) (pda_cons (pd_var 8) pda_nil))) dlen3) pda_nil)) dlen2)))))))))))))
end
def d_is_integer : He.DefD := ⟨("is_integer", none), "is_integer", "is_integer", defArgs st_is_integer, defBody st_is_integer, defScope st_is_integer, [], []⟩
def d_is_tuple : He.DefD := ⟨("is_tuple", none), "is_tuple", "is_tuple", defArgs st_is_tuple, defBody st_is_tuple, defScope st_is_tuple, [], []⟩
def d_sums_by : He.DefD := ⟨("sums_by", none), "sums_by", "sums_by", defArgs st_sums_by, defBody st_sums_by, defScope st_sums_by, [], []⟩
def d_is_row : He.DefD := ⟨("is_row", none), "is_row", "is_row", defArgs st_is_row, defBody st_is_row, defScope st_is_row, [], []⟩
def d_are_even : He.DefD := ⟨("are_even", none), "are_even", "are_even", defArgs st_are_even, defBody st_are_even, defScope st_are_even, [], []⟩
def d_is_tie : He.DefD := ⟨("is_tie", none), "is_tie", "is_tie", defArgs st_is_tie, defBody st_is_tie, defScope st_is_tie, [], []⟩
def d__law_start : He.DefD := ⟨("_law_start", none), "_law_start", "_law_start", defArgs st__law_start, defBody st__law_start, defScope st__law_start, [], []⟩
def d__law_draw : He.DefD := ⟨("_law_draw", none), "_law_draw", "_law_draw", defArgs st__law_draw, defBody st__law_draw, defScope st__law_draw, [], []⟩
def d__law_shuffled : He.DefD := ⟨("_law_shuffled", none), "_law_shuffled", "_law_shuffled", defArgs st__law_shuffled, defBody st__law_shuffled, defScope st__law_shuffled, [], []⟩
def d__law_some_tie : He.DefD := ⟨("_law_some_tie", none), "_law_some_tie", "_law_some_tie", defArgs st__law_some_tie, defBody st__law_some_tie, defScope st__law_some_tie, [], []⟩
def d__law_one_of : He.DefD := ⟨("_law_one_of", none), "_law_one_of", "_law_one_of", defArgs st__law_one_of, defBody st__law_one_of, defScope st__law_one_of, [], []⟩
def d__law_bent : He.DefD := ⟨("_law_bent", none), "_law_bent", "_law_bent", defArgs st__law_bent, defBody st__law_bent, defScope st__law_bent, [], []⟩
def d__law_says : He.DefD := ⟨("_law_says", none), "_law_says", "_law_says", defArgs st__law_says, defBody st__law_says, defScope st__law_says, [], []⟩
def d__law_is_int : He.DefD := ⟨("_law_is_int", none), "_law_is_int", "_law_is_int", defArgs st__law_is_int, defBody st__law_is_int, defScope st__law_is_int, [], []⟩
def d__law_units : He.DefD := ⟨("_law_units", none), "_law_units", "_law_units", defArgs st__law_units, defBody st__law_units, defScope st__law_units, [], []⟩
def d__law_is_tie : He.DefD := ⟨("_law_is_tie", none), "_law_is_tie", "_law_is_tie", defArgs st__law_is_tie, defBody st__law_is_tie, defScope st__law_is_tie, [], []⟩
def d_law : He.DefD := ⟨("law", none), "law", "law", defArgs st_law, defBody st_law, defScope st_law, [], []⟩
def fn : List He.DefD := [d_is_integer, d_is_tuple, d_sums_by, d_is_row, d_are_even, d_is_tie, d__law_start, d__law_draw, d__law_shuffled, d__law_some_tie, d__law_one_of, d__law_bent, d__law_says, d__law_is_int, d__law_units, d__law_is_tie, d_law]
def fa : List He.Fa := [.glo "is_integer", .glo "is_tuple", .glo "sums_by", .glo "is_row", .glo "are_even", .glo "is_tie", .glo "_law_start", .glo "_law_draw", .glo "_law_shuffled", .glo "_law_some_tie", .glo "_law_one_of", .glo "_law_bent", .glo "_law_says", .glo "_law_is_int", .glo "_law_units", .glo "_law_is_tie", .glo "law", .free "abs", .free "all", .free "any", .free "bool", .free "int", .free "isinstance", .free "len", .free "list", .free "range", .free "sorted", .free "str", .free "sum", .free "tuple", .free "zip"]
abbrev R : PySem.W.OpenRow := PySem.W.OpenLaw.row PySem.Challenge.rw_drawnalike_k00_is_tie
abbrev hk : PySem.W.Hook := He.hookD 4 fa fn
def ob (s : PySem.W.SharedT) : He.AlD := He.obsDG 4 fa fn (HandSHeadRun.getT s)
theorem ob_eq (s : PySem.W.SharedT) : ob s = hk.obs s.abs := He.obsDG_eq (HandSHeadRun.getT_eq s)
def loose : List PySem.Str := (["is_integer", "is_tuple", "sums_by", "is_row", "are_even", "is_tie", "_law_start", "_law_draw", "_law_shuffled", "_law_some_tie", "_law_one_of", "_law_bent", "_law_says", "_law_is_int", "_law_units", "_law_is_tie"] : List PySem.Str)
theorem run (w : World) : HandSHeadRun.RunEq R (PySem.W.view R.prog [19]) hk ob 4000 loose w := by
  intro os
  kernel_rfl
theorem gs_of {K : PySem.W.Frag} {h : Heap} {mg : Str → Option Value} (X : K.In h) (G : h.Ns mainGlobals mg) (c : He.SaysD fa fn K) : Gs K mg :=
  let ⟨fd0, F0⟩ := c.def_ 0 (d := d_is_integer) rfl
  let ⟨fd1, F1⟩ := c.def_ 1 (d := d_is_tuple) rfl
  let ⟨fd2, F2⟩ := c.def_ 2 (d := d_sums_by) rfl
  let ⟨fd3, F3⟩ := c.def_ 3 (d := d_is_row) rfl
  let ⟨fd4, F4⟩ := c.def_ 4 (d := d_are_even) rfl
  let ⟨fd5, F5⟩ := c.def_ 5 (d := d_is_tie) rfl
  let ⟨fd6, F6⟩ := c.def_ 6 (d := d__law_start) rfl
  let ⟨fd7, F7⟩ := c.def_ 7 (d := d__law_draw) rfl
  let ⟨fd8, F8⟩ := c.def_ 8 (d := d__law_shuffled) rfl
  let ⟨fd9, F9⟩ := c.def_ 9 (d := d__law_some_tie) rfl
  let ⟨fd10, F10⟩ := c.def_ 10 (d := d__law_one_of) rfl
  let ⟨fd11, F11⟩ := c.def_ 11 (d := d__law_bent) rfl
  let ⟨fd12, F12⟩ := c.def_ 12 (d := d__law_says) rfl
  let ⟨fd13, F13⟩ := c.def_ 13 (d := d__law_is_int) rfl
  let ⟨fd14, F14⟩ := c.def_ 14 (d := d__law_units) rfl
  let ⟨fd15, F15⟩ := c.def_ 15 (d := d__law_is_tie) rfl
  let ⟨fd16, F16⟩ := c.def_ 16 (d := d_law) rfl
  ⟨⟨_, fd0, F0, He.glo_ok X G (c.fact 0 (f := .glo "is_integer") rfl)⟩,
   ⟨_, fd1, F1, He.glo_ok X G (c.fact 1 (f := .glo "is_tuple") rfl)⟩,
   ⟨_, fd2, F2, He.glo_ok X G (c.fact 2 (f := .glo "sums_by") rfl)⟩,
   ⟨_, fd3, F3, He.glo_ok X G (c.fact 3 (f := .glo "is_row") rfl)⟩,
   ⟨_, fd4, F4, He.glo_ok X G (c.fact 4 (f := .glo "are_even") rfl)⟩,
   ⟨_, fd5, F5, He.glo_ok X G (c.fact 5 (f := .glo "is_tie") rfl)⟩,
   ⟨_, fd6, F6, He.glo_ok X G (c.fact 6 (f := .glo "_law_start") rfl)⟩,
   ⟨_, fd7, F7, He.glo_ok X G (c.fact 7 (f := .glo "_law_draw") rfl)⟩,
   ⟨_, fd8, F8, He.glo_ok X G (c.fact 8 (f := .glo "_law_shuffled") rfl)⟩,
   ⟨_, fd9, F9, He.glo_ok X G (c.fact 9 (f := .glo "_law_some_tie") rfl)⟩,
   ⟨_, fd10, F10, He.glo_ok X G (c.fact 10 (f := .glo "_law_one_of") rfl)⟩,
   ⟨_, fd11, F11, He.glo_ok X G (c.fact 11 (f := .glo "_law_bent") rfl)⟩,
   ⟨_, fd12, F12, He.glo_ok X G (c.fact 12 (f := .glo "_law_says") rfl)⟩,
   ⟨_, fd13, F13, He.glo_ok X G (c.fact 13 (f := .glo "_law_is_int") rfl)⟩,
   ⟨_, fd14, F14, He.glo_ok X G (c.fact 14 (f := .glo "_law_units") rfl)⟩,
   ⟨_, fd15, F15, He.glo_ok X G (c.fact 15 (f := .glo "_law_is_tie") rfl)⟩,
   ⟨_, fd16, F16, He.glo_ok X G (c.fact 16 (f := .glo "law") rfl)⟩,
   He.free_ok X G (c.fact 17 (f := .free "abs") rfl),
   He.free_ok X G (c.fact 18 (f := .free "all") rfl),
   He.free_ok X G (c.fact 19 (f := .free "any") rfl),
   He.free_ok X G (c.fact 20 (f := .free "bool") rfl),
   He.free_ok X G (c.fact 21 (f := .free "int") rfl),
   He.free_ok X G (c.fact 22 (f := .free "isinstance") rfl),
   He.free_ok X G (c.fact 23 (f := .free "len") rfl),
   He.free_ok X G (c.fact 24 (f := .free "list") rfl),
   He.free_ok X G (c.fact 25 (f := .free "range") rfl),
   He.free_ok X G (c.fact 26 (f := .free "sorted") rfl),
   He.free_ok X G (c.fact 27 (f := .free "str") rfl),
   He.free_ok X G (c.fact 28 (f := .free "sum") rfl),
   He.free_ok X G (c.fact 29 (f := .free "tuple") rfl),
   He.free_ok X G (c.fact 30 (f := .free "zip") rfl)⟩
theorem fd_same {K : PySem.W.Frag} {x qual : Str} {params : Arguments} {body : List Stmt} {scope : Scope} {f : Addr} {fd fd' : FuncData} (F : FunD K x qual params body scope [] [] f fd) (F' : FunD K x qual params body scope [] [] f fd') : fd = fd' := by
  obtain ⟨oc, od, dV, kV, doc, pm, an, cdv, ct, osl, h1, lk, _⟩ := F.ex
  obtain ⟨oc', od', dV', kV', doc', pm', an', cdv', ct', osl', h1', lk', _⟩ := F'.ex
  have e := Option.some.inj (lk.symm.trans lk')
  cases e
  rfl
end K00
open PySem PySem.W PySem.Calls PyProof.Rows in
theorem K00.holds_of (hlaw : ∀ ns : List Int, ns.length ≤ 63 → ∃ Γ' M', K00.b_law (none :: some (.ptr 0) :: List.replicate (10 - 2) none) [DL.state0 ns] = some (.rt (.dat (.bool true)), Γ', M')) : PySem.Challenge.rw_drawnalike_k00_is_tie.Holds := by
  w_on; o_law
  refine HandSHeadRun.head_any (r := OpenLaw.row PySem.Challenge.rw_drawnalike_k00_is_tie) (q := view (OpenLaw.row PySem.Challenge.rw_drawnalike_k00_is_tie).prog [19]) (H := K00.hk) (ob := K00.ob) (M := 4000) (loose := K00.loose) (d := HandSHeadRun.topDef (OpenLaw.row PySem.Challenge.rw_drawnalike_k00_is_tie).prog 19) (kwd := []) K00.ob_eq
    (by kernel_rfl) (fun s => by kernel_rfl) K00.run (by kernel_rfl) (by kernel_rfl) (by kernel_rfl) (by rfl) (by first | assumption | decide +kernel) (by decide +kernel) ⟨rfl, rfl, rfl, rfl, rfl, by decide +kernel⟩ ?hw ?hc
  case hw => w_witness2
  case hc =>
    refine L2.walk_ofE (l := PySem.Challenge.rw_drawnalike_k00_is_tie) (n := 63) (k := 35) (x := "script") (CX := L2.CX0) rfl (by decide) (by kernel_rfl) ⟨rfl, by decide, by decide⟩ ?F (fun _ _ _ _ z => z)
    intro w mg fa h Y G hmg0
    obtain ⟨K, KX, c⟩ := Y
    have hmg : mg ("law" : PySem.Str) = some (.ref fa) := by
      have e : (HandSHeadRun.topDef (OpenLaw.row PySem.Challenge.rw_drawnalike_k00_is_tie).prog 19).name = ("law" : PySem.Str) := by kernel_rfl
      rw [← e]
      exact hmg0
    have gs := K00.gs_of KX G c
    obtain ⟨f, fd, hf, F, _⟩ := K00.ok_law (P := (PySem.Challenge.rw_drawnalike_k00_is_tie).prog) (w := w) (base := h) gs hlaw
    have e := hmg.symm.trans hf
    cases e
    have b := L2.FunD.bindsA (ps := ["script"]) F fun _ _ _ _ _ _ us hl => match us, hl with | [_], _ => rfl
    refine ⟨K, fd, DL.spLaw K, KX, fun s v => b s [v] rfl, fun H a ns hl _ hS => ⟨a, ns, rfl, hl, hS, fun _ => rfl⟩, fun base _ _ => ?_⟩
    obtain ⟨f2, fd2, hf2, F2, ok⟩ := K00.ok_law (P := (PySem.Challenge.rw_drawnalike_k00_is_tie).prog) (w := w) (base := base) gs hlaw
    have e := hmg.symm.trans hf2
    cases e
    have e : fd2 = fd := K00.fd_same F2 F
    subst e
    exact ok
namespace K00
open PySem PySem.Spec PyProof.Rows L2 DL

theorem plainAll_mem : ∀ {ds : List D}, PyData.plainAll ds = true → ∀ d ∈ ds, d.plain = true
  | [], _, _, h => nomatch h
  | x :: xs, hp, d, h => by
    rw [PyData.plainAll, Bool.and_eq_true] at hp
    rcases List.mem_cons.mp h with rfl | h
    · exact hp.1
    · exact plainAll_mem hp.2 d h
def intD : D → Bool
  | .int _ => true
  | _ => false
theorem is_integer_spec {d : D} (h : d.plain = true) : g_is_integer [.dat d] [] = some (.bool (intD d), []) := by
  cases d <;> first | (simp [PyData.plain] at h; done) | simp [g_is_integer, oIsi, isi, intD]
theorem law_is_int_spec {d : D} (h : d.plain = true) : g__law_is_int [.dat d] [] = some (.bool (intD d), []) := is_integer_spec h
def tupD : D → Option (List D)
  | .tuple xs => some xs
  | _ => none
def is3 : D → Bool
  | .tuple [_, _, _] => true
  | _ => false
theorem is_tuple3_spec {d : D} (h : d.plain = true) : g_is_tuple [.dat d, .dat (.int 3)] [] = some (.bool (is3 d), []) := by
  cases d with
  | tuple xs =>
    have hl : is3 (.tuple xs) = decide (xs.length = 3) := by
      match xs with
      | [] => rfl
      | [_] => rfl
      | [_, _] => rfl
      | [_, _, _] => rfl
      | _ :: _ :: _ :: _ :: _ => simp [is3]
    have h2 : ((xs.length : Int) == 3) = decide (xs.length = 3) := by
      rw [Bool.eq_iff_iff]
      simp
      omega
    simp [g_is_tuple, oIsi, isi, hl, h2]
  | dict kvs => simp [PyData.plain] at h
  | _ => simp [g_is_tuple, oIsi, isi, is3]
def rowOk (m o : Int) : D → Bool
  | .tuple [.int a, .int b, .int c] => decide (0 ≤ a) && decide (a < m) && decide (0 ≤ b) && decide (b < o) && decide (0 < c)
  | _ => false
theorem is_row_spec {d : D} {m o : Int} (h : d.plain = true) : g_is_row [.dat d, .dat (.int m), .dat (.int o)] [] = some (.bool (rowOk m o d), []) := by
  cases h3 : is3 d with
  | false =>
    have : rowOk m o d = false := by
      unfold rowOk
      split
      · cases h3
      · rfl
    simp [g_is_row, is_tuple3_spec h, h3, this]
  | true =>
    unfold is3 at h3
    split at h3
    case h_2 => cases h3
    rename_i x y z
    have hp := h
    rw [PyData.plain] at hp
    have hp := plainAll_mem hp
    have hc : dComp (iSeq (dVar 0)) (gNm 3) [3] tYes_ (dCall g_is_integer (dCons (dVar 3) dNil)) [some (.dat (.tuple [x, y, z])), some (.dat (.int m)), some (.dat (.int o)), none] [] = some (.ptr 0, [.list [.bool (intD x), .bool (intD y), .bool (intD z)]]) := by
      have := dComp_all (fi := iSeq (dVar 0)) (tg := gNm 3) (own := [3]) (te := dCall g_is_integer (dCons (dVar 3) dNil)) (Γ := [some (.dat (.tuple [x, y, z])), some (.dat (.int m)), some (.dat (.int o)), none]) (M0 := []) (M := []) (ds := [x, y, z]) (fun d => .bool (intD d)) (by simp) (by simp [lim_e]) fun d hd acc => ⟨_, rfl, by simp [is_integer_spec (hp d hd)]⟩
      simpa using this
    simp [g_is_row, is_tuple3_spec h, is3, hc, bAll, blsD]
    cases x <;> cases y <;> cases z <;> simp [intD, rowOk]
    rename_i a b c _
    by_cases h1 : 0 ≤ a <;> by_cases h2 : a < m <;> by_cases h3 : 0 ≤ b <;> by_cases h4 : b < o <;> by_cases h5 : 0 < c <;> simp [h1, h2, h3, h4, h5]
/-- a row's three numbers -/
abbrev Row := Int × Int × Int
def rowD (t : Row) : D := .tuple [.int t.1, .int t.2.1, .int t.2.2]
def InR (m o : Int) (t : Row) : Prop := 0 ≤ t.1 ∧ t.1 < m ∧ 0 ≤ t.2.1 ∧ t.2.1 < o ∧ 0 < t.2.2
theorem rowOk_rowD {m o : Int} {t : Row} (h : InR m o t) : rowOk m o (rowD t) = true := by
  obtain ⟨h1, h2, h3, h4, h5⟩ := h
  simp [rowD, rowOk, h1, h2, h3, h4, h5]
theorem rows_of {m o : Int} : ∀ {ds : List D}, (∀ d ∈ ds, rowOk m o d = true) → ∃ rs : List Row, ds = rs.map rowD ∧ ∀ t ∈ rs, InR m o t
  | [], _ => ⟨[], rfl, fun _ h => nomatch h⟩
  | d :: ds, h => by
    obtain ⟨rs, rfl, hr⟩ := rows_of fun e he => h e (List.mem_cons_of_mem _ he)
    have hd := h d List.mem_cons_self
    unfold rowOk at hd
    split at hd
    case h_2 => cases hd
    rename_i a b c
    simp only [Bool.and_eq_true, decide_eq_true_eq] at hd
    obtain ⟨⟨⟨⟨h1, h2⟩, h3⟩, h4⟩, h5⟩ := hd
    refine ⟨(a, b, c) :: rs, rfl, fun t ht => ?_⟩
    rcases List.mem_cons.mp ht with rfl | ht
    · exact ⟨h1, h2, h3, h4, h5⟩
    · exact hr t ht
/-- the place-th number of a row -/
def plc (p : Nat) (t : Row) : Int := if p = 0 then t.1 else t.2.1
/-- the sum of the weights of the rows at place i -/
def sumAt (p : Nat) (rs : List Row) (i : Nat) : Int := ((rs.filter fun t => decide (plc p t = (i : Int))).map fun t => t.2.2).sum
def sums (p : Nat) (rs : List Row) (n : Nat) : List Int := (List.range n).map (sumAt p rs)
theorem sumAt_snoc (p : Nat) (rs : List Row) (t : Row) (i : Nat) : sumAt p (rs ++ [t]) i = if plc p t = (i : Int) then sumAt p rs i + t.2.2 else sumAt p rs i := by
  unfold sumAt
  rw [List.filter_append]
  by_cases h : plc p t = (i : Int)
  · rw [if_pos h, List.filter_cons_of_pos (by simpa using h)]; simp
  · rw [if_neg h, List.filter_cons_of_neg (by simpa using h)]; simp
theorem sums_snoc (p : Nat) (rs : List Row) (t : Row) (n k : Nat) (hk : k < n) (ht : plc p t = (k : Int)) : sums p (rs ++ [t]) n = (sums p rs n).set k (sumAt p rs k + t.2.2) := by
  apply List.ext_getElem?
  intro i
  unfold sums
  by_cases hi : i = k
  · subst hi
    rw [List.getElem?_set_self (by simpa using hk), List.getElem?_map, List.getElem?_range hk]
    simp [sumAt_snoc, ht]
  · rw [List.getElem?_set_ne (Ne.symm hi), List.getElem?_map, List.getElem?_map]
    by_cases h : i < n
    · rw [List.getElem?_range h]
      simp [sumAt_snoc, ht]
      omega
    · rw [List.getElem?_eq_none (by simpa using h)]; rfl
theorem sums_by_spec {rs : List Row} {p n : Nat} (hp : p < 2) (hn : n ≤ 100) (hr : ∀ t ∈ rs, ∃ k : Nat, k < n ∧ plc p t = (k : Int)) :
    g_sums_by [.dat (.tuple (rs.map rowD)), .dat (.int p), .dat (.int n)] [] = some (.list ((sums p rs n).map .int), []) := by
  obtain ⟨Γ', M', e, hI⟩ := sFor_all (fi := iSeq (dVar 0)) (tg := gNm 4) (body := sAugSub oIAdd (dVar 3) (dBin oIx (dVar 4) (dVar 1)) (dBin oIx (dVar 4) (dC (.int 2))))
    (Γ := [some (.dat (.tuple (rs.map rowD))), some (.dat (.int p)), some (.dat (.int n)), some (.ptr 0), none]) (M := [.list ((sums p [] n).map .int)]) (M1 := [.list ((sums p [] n).map .int)]) (ds := rs.map rowD) (by simp)
    (fun i Γ M => (∃ x, Γ = [some (.dat (.tuple (rs.map rowD))), some (.dat (.int p)), some (.dat (.int n)), some (.ptr 0), x]) ∧ M = [.list ((sums p (rs.take i) n).map .int)]) ⟨⟨_, rfl⟩, rfl⟩ fun i d Γ M hd ⟨⟨x, hΓ⟩, hM⟩ => by
      subst hΓ hM
      rw [List.getElem?_map] at hd
      obtain ⟨t, ht, rfl⟩ := Option.map_eq_some_iff.mp hd
      obtain ⟨k, hk, hpk⟩ := hr t (List.mem_of_getElem? ht)
      refine ⟨_, _, _, rfl, ?_, ⟨some (.dat (rowD t)), rfl⟩, rfl⟩
      have h1 : rs.take (i + 1) = rs.take i ++ [t] := by rw [List.take_add_one, ht]; rfl
      rw [h1, sums_snoc p _ t n k hk hpk]
      have hg : (sums p (rs.take i) n)[k]? = some (sumAt p (rs.take i) k) := by simp [sums, hk]
      have hl : (sums p (rs.take i) n).length = n := by simp [sums]
      have hp' : p = 0 ∨ p = 1 := by omega
      rcases hp' with rfl | rfl
      · have hpk : t.1 = (k : Int) := hpk
        simp [rowD, hpk, hg, hl, hk, List.map_set]
        simp [sums]
      · have hpk : t.2.1 = (k : Int) := hpk
        simp [rowD, hpk, hg, hl, hk, List.map_set]
        simp [sums]
  obtain ⟨⟨x, hΓ⟩, hM⟩ := hI
  have hz : (List.replicate n [PyData.int 0]).flatten = (sums p [] n).map .int := by
    have : (sums p [] n) = List.replicate n 0 := by
      unfold sums
      rw [List.eq_replicate_iff]
      simp [sumAt]
    rw [this]
    simp
  have hm : oMul (.list [.int 0]) (.int n) = some (.new (.list ((sums p [] n).map .int))) := by
    show (if (decide (-1000000 ≤ (n : Int)) && decide ((n : Int) ≤ 1000000) && decide ([PyData.int 0].length * (n : Int).toNat ≤ LIM)) = true then some (OR.new (.list (List.replicate (n : Int).toNat [PyData.int 0]).flatten)) else none) = _
    rw [if_pos, Int.toNat_natCast, hz]
    simp [lim_e]
    omega
  simp [g_sums_by, lim_e, hm, e, hΓ, hM]
def evenB : List Int → Bool
  | [] => false
  | s :: r => decide (0 < s) && r.all (· == s)
theorem are_even_spec {ss : List Int} (h0 : ss ≠ []) (hl : ss.length ≤ LIM) : g_are_even [.dat (.list (ss.map .int))] [] = some (.bool (evenB ss), []) := by
  cases ss with
  | nil => exact absurd rfl h0
  | cons s r =>
    have hc : dComp (iSeq (dVar 0)) (gNm 1) [1] tYes_ (dBin oEq (dVar 1) (dBin oIx (dVar 0) (dC (.int 0)))) [some (.dat (.list ((s :: r).map .int))), none] [] = some (.ptr 0, [.list (((s :: r).map (· == s)).map .bool)]) := by
      have := dComp_all (fi := iSeq (dVar 0)) (tg := gNm 1) (own := [1]) (te := dBin oEq (dVar 1) (dBin oIx (dVar 0) (dC (.int 0)))) (Γ := [some (.dat (.list ((s :: r).map .int))), none]) (M0 := []) (M := []) (ds := (s :: r).map .int)
        (fun d => match d with | .int i => .bool (i == s) | _ => .none) (by simp) (by simpa using hl) fun d hd acc => by
          obtain ⟨i, _, rfl⟩ := List.mem_map.mp hd
          exact ⟨_, rfl, by simp⟩
      rw [this, List.map_map, List.map_map]
      rfl
    have ha : ((s :: r).map (· == s)).all id = r.all (· == s) := by
      rw [List.map_cons, List.all_cons, List.all_map]
      simp
    generalize (s :: r).map (· == s) = bs at hc ha
    rw [List.map_cons] at hc ⊢
    by_cases hs : 0 < s
    · simp [g_are_even, hs, hc, evenB, ha]
    · simp [g_are_even, hs, evenB]
def unrow : D → Row
  | .tuple [.int a, .int b, .int c] => (a, b, c)
  | _ => (0, 0, 0)
def lt2 (s t : Row) : Bool := decide (s.1 < t.1 ∨ (s.1 = t.1 ∧ s.2.1 < t.2.1))
def asc (rs : List Row) : Bool := (rs.zip (rs.drop 1)).all fun p => lt2 p.1 p.2
def tieR (m o : Nat) (rs : List Row) : Bool := asc rs && (evenB (sums 0 rs m) && evenB (sums 1 rs o))
def tieB (m o : Nat) : D → Bool
  | .tuple ds => !ds.isEmpty && (ds.all (rowOk m o) && tieR m o (ds.map unrow))
  | _ => false
theorem unrow_rows (rs : List Row) : (rs.map rowD).map unrow = rs := by
  rw [List.map_map]
  exact (List.map_congr_left fun t _ => rfl).trans (List.map_id rs)
theorem inR_plc {m o : Nat} {t : Row} (h : InR m o t) : (∃ k : Nat, k < m ∧ plc 0 t = (k : Int)) ∧ ∃ k : Nat, k < o ∧ plc 1 t = (k : Int) := by
  obtain ⟨h1, h2, h3, h4, _⟩ := h
  exact ⟨⟨t.1.toNat, by omega, by show t.1 = _; omega⟩, ⟨t.2.1.toNat, by omega, by show t.2.1 = _; omega⟩⟩
theorem sums_ne {p n : Nat} {rs : List Row} (h : 0 < n) : sums p rs n ≠ [] := fun e => by
  have := congrArg List.length e
  simp [sums] at this
  omega
theorem sums_len {p n : Nat} {rs : List Row} : (sums p rs n).length = n := by simp [sums]
theorem is_tie_spec {d : D} {m o : Nat} (h : d.plain = true) (hL : ∀ ds, d = .tuple ds → ds.length ≤ LIM) (hm : 0 < m) (hm2 : m ≤ 100) (ho : 0 < o) (ho2 : o ≤ 100) : g_is_tie [.dat d, .dat (.int m), .dat (.int o)] [] = some (.bool (tieB m o d), []) := by
  cases d with
  | dict kvs => simp [PyData.plain] at h
  | tuple ds =>
    have hl := hL ds rfl
    have hp := plainAll_mem (show PyData.plainAll ds = true by rw [PyData.plain] at h; exact h)
    cases hn : ds.isEmpty with
    | true => simp [g_is_tie, oIsi, isi, oEq_nil h, hn, tieB, lim_e]
    | false =>
      have hc : dComp (iSeq (dVar 0)) (gNm 3) [3] tYes_ (dCall g_is_row (dCons (dVar 3) (dCons (dVar 1) (dCons (dVar 2) dNil)))) [some (.dat (.tuple ds)), some (.dat (.int m)), some (.dat (.int o)), none, none, none] [] = some (.ptr 0, [.list ((ds.map (rowOk m o)).map .bool)]) := by
        have := dComp_all (fi := iSeq (dVar 0)) (tg := gNm 3) (own := [3]) (te := dCall g_is_row (dCons (dVar 3) (dCons (dVar 1) (dCons (dVar 2) dNil)))) (Γ := [some (.dat (.tuple ds)), some (.dat (.int m)), some (.dat (.int o)), none, none, none]) (M0 := []) (M := []) (ds := ds)
          (fun d => .bool (rowOk m o d)) (by simp) hl fun d hd acc => ⟨_, rfl, by simp [is_row_spec (hp d hd)]⟩
        rw [this, List.map_map]
        rfl
      have ha : (ds.map (rowOk m o)).all id = ds.all (rowOk m o) := by
        rw [List.all_map]; rfl
      generalize ds.map (rowOk m o) = bs at hc ha
      cases hok : ds.all (rowOk m o) with
      | false =>
        rw [hok] at ha
        simp [g_is_tie, oIsi, isi, oEq_nil h, hn, tieB, lim_e, hc, ha, hok]
      | true =>
        rw [hok] at ha
        obtain ⟨rs, rfl, hr⟩ := rows_of (List.all_eq_true.mp hok)
        have hz : dComp (iZip (dCons (dVar 0) (dCons (dSl (dVar 0) (oS (dC (.int 1))) oN) dNil))) (gTp [(gNm 4), (gNm 5)]) [4, 5] tYes_ (dBin oLt (dSl (dVar 4) oN (oS (dC (.int 2)))) (dSl (dVar 5) oN (oS (dC (.int 2))))) [some (.dat (.tuple (rs.map rowD))), some (.dat (.int m)), some (.dat (.int o)), none, none, none] [] = some (.ptr 0, [.list (((rs.zip (rs.drop 1)).map fun p => lt2 p.1 p.2).map .bool)]) := by
          have := dComp_all (fi := iZip (dCons (dVar 0) (dCons (dSl (dVar 0) (oS (dC (.int 1))) oN) dNil))) (tg := gTp [(gNm 4), (gNm 5)]) (own := [4, 5]) (te := dBin oLt (dSl (dVar 4) oN (oS (dC (.int 2)))) (dSl (dVar 5) oN (oS (dC (.int 2))))) (Γ := [some (.dat (.tuple (rs.map rowD))), some (.dat (.int m)), some (.dat (.int o)), none, none, none]) (M0 := []) (M := [])
            (ds := ((rs.map rowD).zip ((rs.map rowD).drop 1)).map fun p => .tuple [p.1, p.2]) (fun d => match d with | .tuple [x, y] => .bool (lt2 (unrow x) (unrow y)) | _ => .none) (by simp [cut_from, zpw_tup]) (by simp at hl ⊢; omega) fun d hd acc => by
              obtain ⟨⟨x, y⟩, hxy, rfl⟩ := List.mem_map.mp hd
              obtain ⟨h1, h2⟩ := List.of_mem_zip hxy
              obtain ⟨s, _, rfl⟩ := List.mem_map.mp h1
              obtain ⟨t, _, rfl⟩ := List.mem_map.mp (List.mem_of_mem_drop h2)
              exact ⟨_, rfl, by simp [rowD, cut_to, lt2, unrow]; rw [Bool.eq_iff_iff]; simp; exact decide_eq_true_iff.symm⟩
          rw [this, List.map_map, List.map_map]
          congr 4
          rw [← List.map_drop, List.zip_map, List.map_map]
          rfl
        have hza : ((rs.zip (rs.drop 1)).map fun p => lt2 p.1 p.2).all id = asc rs := by
          rw [List.all_map]; rfl
        generalize (rs.zip (rs.drop 1)).map (fun p => lt2 p.1 p.2) = zs at hz hza
        have e1 := sums_by_spec (rs := rs) (p := 0) (n := m) (by omega) hm2 fun t ht => (inR_plc (hr t ht)).1
        have e2 := sums_by_spec (rs := rs) (p := 1) (n := o) (by omega) ho2 fun t ht => (inR_plc (hr t ht)).2
        have e3 := are_even_spec (ss := sums 0 rs m) (sums_ne hm) (by rw [sums_len]; simp [lim_e]; omega)
        have e4 := are_even_spec (ss := sums 1 rs o) (sums_ne ho) (by rw [sums_len]; simp [lim_e]; omega)
        have ht : tieB m o (.tuple (rs.map rowD)) = tieR m o rs := by
          unfold tieB
          simp only [hn, hok, unrow_rows]
          simp
        rw [ht]
        have hn' : (rs.map rowD).isEmpty = false := hn
        cases h5 : asc rs with
        | false =>
          rw [h5] at hza
          simp [g_is_tie, oIsi, isi, oEq_nil h, hn, lim_e, hc, ha, hz, hza, tieR, h5, -List.isEmpty_map]
        | true =>
          rw [h5] at hza
          cases h6 : evenB (sums 0 rs m) <;> cases h7 : evenB (sums 1 rs o) <;> simp_all [g_is_tie, oIsi, isi, oEq_nil h, hn, lim_e, hc, ha, hz, hza, tieR, h5, e1, e2, e3, e4, -List.isEmpty_map]
  | _ => simp [g_is_tie, oIsi, isi, tieB]
end K00
namespace K00
open PySem PySem.Spec PyProof.Rows L2 DL

theorem units_spec {rs : List Row} {p n : Nat} (hp : p < 2) (hn : n ≤ 100) (hl : rs.length ≤ LIM) :
    g__law_units [.dat (.tuple (rs.map rowD)), .dat (.int p), .dat (.int n)] [] = some (.list ((sums p rs n).map .int), []) := by
  obtain ⟨Γ', M', e, ⟨x, hΓ⟩, hM⟩ := sFor_all (fi := iRng (dCons (dVar 2) dNil)) (tg := gNm 4) (body := sExpr (dMethW "list" wAppend (dVar 3) (dCons (dCB bSum (dCons (dFrz (dComp (iSeq (dVar 0)) (gNm 5) [5] (tVal (dBin oEq (dBin oIx (dVar 5) (dVar 1)) (dVar 4))) (dBin oIx (dVar 5) (dC (.int 2))))) dNil)) dNil)))
    (Γ := [some (.dat (.tuple (rs.map rowD))), some (.dat (.int p)), some (.dat (.int n)), some (.ptr 0), none, none]) (M := [.list []]) (M1 := [.list []]) (ds := rngD 0 n) (by simp; rw [rgw_1 (by omega) (by omega)]; simp [itR_rng])
    (fun i Γ M => (∃ x, Γ = [some (.dat (.tuple (rs.map rowD))), some (.dat (.int p)), some (.dat (.int n)), some (.ptr 0), x, none]) ∧ M = [.list (((sums p rs n).take i).map .int)]) ⟨⟨_, rfl⟩, rfl⟩ fun i d Γ M hd ⟨⟨x, hΓ⟩, hM⟩ => by
      subst hΓ hM
      have hi : i < n := by
        have := (List.getElem?_eq_some_iff.mp hd).1
        simpa using this
      rw [rngD_get hi] at hd
      cases hd
      refine ⟨_, _, _, rfl, ?_, ⟨some (.dat (.int (0 + i))), rfl⟩, rfl⟩
      have h1 : (sums p rs n).take (i + 1) = (sums p rs n).take i ++ [sumAt p rs i] := by
        rw [List.take_add_one]
        congr 1
        simp [sums, hi]
      have hc := dComp_map (fi := iSeq (dVar 0)) (tg := gNm 5) (own := [5]) (tt := tVal (dBin oEq (dBin oIx (dVar 5) (dVar 1)) (dVar 4))) (te := dBin oIx (dVar 5) (dC (.int 2)))
        (Γ := [some (.dat (.tuple (rs.map rowD))), some (.dat (.int p)), some (.dat (.int n)), some (.ptr 0), some (.dat (.int (0 + i))), none]) (M0 := [.list (((sums p rs n).take i).map .int)]) (M := [.list (((sums p rs n).take i).map .int)]) (ds := rs.map rowD)
        (fun d => decide (plc p (unrow d) = (i : Int))) (fun d => .int (unrow d).2.2) (by simp) (by simpa using hl) fun d hd acc => by
          obtain ⟨t, _, rfl⟩ := List.mem_map.mp hd
          have hp' : p = 0 ∨ p = 1 := by omega
          rcases hp' with rfl | rfl <;> exact ⟨_, rfl, by simp [rowD, unrow, plc]; rfl, fun _ => by simp [rowD, unrow]⟩
      have hs : ((rs.map rowD).filter fun d => decide (plc p (unrow d) = (i : Int))).map (fun d => PyData.int (unrow d).2.2) = (((rs.filter fun t => decide (plc p t = (i : Int))).map fun t => t.2.2).map PyData.int) := by
        rw [List.filter_map, List.map_map, List.map_map]
        rfl
      rw [hs] at hc
      have hl2 : ((sums p rs n).take i).length < LIM := by simp [sums, lim_e]; omega
      have hsum : ((rs.filter fun t => decide (plc p t = (i : Int))).map fun t => t.2.2).sum = sumAt p rs i := rfl
      rw [h1]
      generalize ((rs.filter fun t => decide (plc p t = (i : Int))).map fun t => t.2.2) = ws at hc hsum
      generalize (sums p rs n).take i = fd at hc hl2
      simp at hc
      simp [hc, hl2, hsum]
  simp [g__law_units, lim_e, e, hΓ, hM]
  rw [List.take_of_length_le (by simp [sums])]
abbrev B1 : DS := (sSeq (sIf (tOr_ (tNot_ (tTru (dUn (oIsi "tuple") (dVar 3)))) (tOr_ (tVal (dBin oNe (dCB bLen (dCons (dVar 3) dNil)) (dC (.int 3)))) (tNot_ (tTru (dCB bAll (dCons (dFrz (dComp (iSeq (dVar 3)) (gNm 6) [6] tYes_ (dCall g__law_is_int (dCons (dVar 6) dNil)))) dNil)))))) (sRet (dC (.bool false))) sNil)
  (sIf (tOr_ (tVal (dBin oLt (dBin oIx (dVar 3) (dC (.int 0))) (dC (.int 0)))) (tOr_ (tVal (dBin oGe (dBin oIx (dVar 3) (dC (.int 0))) (dVar 1))) (tOr_ (tVal (dBin oLt (dBin oIx (dVar 3) (dC (.int 1))) (dC (.int 0)))) (tOr_ (tVal (dBin oGe (dBin oIx (dVar 3) (dC (.int 1))) (dVar 2))) (tVal (dBin oLt (dBin oIx (dVar 3) (dC (.int 2))) (dC (.int 1)))))))) (sRet (dC (.bool false))) sNil))
theorem row_spec {d r : D} {m o : Nat} (h : r.plain = true) : B1 [some (.dat d), some (.dat (.int m)), some (.dat (.int o)), some (.dat r), none, none, none] [] =
    some (if rowOk m o r = true then .nx else .rt (.dat (.bool false)), [some (.dat d), some (.dat (.int m)), some (.dat (.int o)), some (.dat r), none, none, none], []) := by
  cases h3 : is3 r with
  | false =>
    have hn : rowOk m o r = false := by
      unfold rowOk
      split
      · cases h3
      · rfl
    cases r with
    | dict kvs => simp [PyData.plain] at h
    | tuple xs =>
      have hl : xs.length ≠ 3 := fun e => by
        match xs, e with
        | [a, b, c], _ => cases h3
      have hl2 : ((xs.length : Int) != 3) = true := by
        rw [bne_iff_ne]
        omega
      simp [oIsi, isi, hl2, hn]
    | _ => simp [oIsi, isi, hn]
  | true =>
    unfold is3 at h3
    split at h3
    case h_2 => cases h3
    rename_i x y z
    have hp := h
    rw [PyData.plain] at hp
    have hp := plainAll_mem hp
    have hc : dComp (iSeq (dVar 3)) (gNm 6) [6] tYes_ (dCall g__law_is_int (dCons (dVar 6) dNil)) [some (.dat d), some (.dat (.int m)), some (.dat (.int o)), some (.dat (.tuple [x, y, z])), none, none, none] [] = some (.ptr 0, [.list ([intD x, intD y, intD z].map .bool)]) := by
      have := dComp_all (fi := iSeq (dVar 3)) (tg := gNm 6) (own := [6]) (te := dCall g__law_is_int (dCons (dVar 6) dNil)) (Γ := [some (.dat d), some (.dat (.int m)), some (.dat (.int o)), some (.dat (.tuple [x, y, z])), none, none, none]) (M0 := []) (M := []) (ds := [x, y, z]) (fun d => .bool (intD d)) (by simp) (by simp [lim_e]) fun d hd acc => ⟨_, rfl, by simp [law_is_int_spec (hp d hd)]⟩
      simpa using this
    have hb : bAll [.list ([intD x, intD y, intD z].map .bool)] = some (.dat (.bool (intD x && (intD y && intD z)))) := by
      rw [bAll_m]
      simp
    generalize [intD x, intD y, intD z].map PyData.bool = bs at hc hb
    simp [oIsi, isi, hc, hb]
    cases x <;> cases y <;> cases z <;> simp [intD, rowOk]
    rename_i a b c _
    by_cases h1 : a < 0
    · have : ¬ 0 ≤ a := by omega
      simp [h1, this]
    by_cases h2 : (m : Int) ≤ a
    · have : ¬ a < m := by omega
      simp [h1, h2, this]
    by_cases h3 : b < 0
    · have : ¬ 0 ≤ b := by omega
      simp [h1, h2, h3, this]
    by_cases h4 : (o : Int) ≤ b
    · have : ¬ b < o := by omega
      simp [h1, h2, h3, h4, this]
    by_cases h5 : c < 1
    · have : ¬ 0 < c := by omega
      simp [h1, h2, h3, h4, h5, this]
    have q : (0 ≤ a ∧ a < m ∧ 0 ≤ b ∧ b < o ∧ 0 < c) := by omega
    simp [h1, h2, h3, h4, h5, q]
theorem asc_iff {rs : List Row} : asc rs = true ↔ ∀ j s t, rs[j]? = some s → rs[j + 1]? = some t → lt2 s t = true := by
  unfold asc
  rw [List.all_eq_true]
  constructor
  · intro h j s t h1 h2
    refine h (s, t) (List.mem_of_getElem? (i := j) ?_)
    rw [List.getElem?_zip_eq_some]
    exact ⟨h1, by rw [List.getElem?_drop, Nat.add_comm]; exact h2⟩
  · intro h p hp
    obtain ⟨j, hj⟩ := List.mem_iff_getElem?.mp hp
    rw [List.getElem?_zip_eq_some] at hj
    obtain ⟨h1, h2⟩ := hj
    rw [List.getElem?_drop, Nat.add_comm] at h2
    exact h j _ _ h1 h2
abbrev B2 : DS := (sIf (tVal (dBin oGe (dSl (dBin oIx (dVar 0) (dVar 4)) oN (oS (dC (.int 2)))) (dSl (dBin oIx (dVar 0) (dBin oAdd (dVar 4) (dC (.int 1)))) oN (oS (dC (.int 2)))))) (sRet (dC (.bool false))) sNil)
theorem step2 {rs : List Row} {s t : Row} {j : Nat} {m o : D} {x : Option SV} (h1 : rs[j]? = some s) (h2 : rs[j + 1]? = some t) : B2 [some (.dat (.tuple (rs.map rowD))), some (.dat m), some (.dat o), x, some (.dat (.int (0 + (j : Nat)))), none, none] [] =
    some (if lt2 s t = true then .nx else .rt (.dat (.bool false)), [some (.dat (.tuple (rs.map rowD))), some (.dat m), some (.dat o), x, some (.dat (.int (0 + (j : Nat)))), none, none], []) := by
  have q1 : atI (rs.map rowD) ((j : Nat) : Int) = some (rowD s) := DL.atI_nat (by rw [List.getElem?_map, h1]; rfl)
  have q2 : atI (rs.map rowD) (((j : Nat) : Int) + 1) = some (rowD t) := DL.atI_nat (n := j + 1) (by rw [List.getElem?_map, h2]; rfl)
  have q3 : lt2 s t = decide (s.1 < t.1 ∨ (s.1 = t.1 ∧ s.2.1 < t.2.1)) := rfl
  have g1 : oGe (.tuple [.int s.1, .int s.2.1]) (.tuple [.int t.1, .int t.2.1]) = some (.dat (.bool (!lt2 s t))) := oGe_ii
  have c1 : cutL [PyData.int s.1, .int s.2.1, .int s.2.2] none (some 2) = [.int s.1, .int s.2.1] := cut_to (by decide)
  have c2 : cutL [PyData.int t.1, .int t.2.1, .int t.2.2] none (some 2) = [.int t.1, .int t.2.1] := cut_to (by decide)
  clear q3
  simp [q1, q2, -atI_nn]
  unfold rowD
  cases hs : lt2 s t <;> simp [c1, c2, g1, hs, -oGe_ii]
abbrev B3 : DS := (sIf (tTru (dCB bAny (dCons (dFrz (dComp (iSeq (dVar 5)) (gNm 6) [6] tYes_ (dOr (dBin oNe (dVar 6) (dBin oIx (dVar 5) (dC (.int 0)))) (dBin oLt (dVar 6) (dC (.int 1)))))) dNil))) (sRet (dC (.bool false))) sNil)
theorem step3 {ss : List Int} {d m o : D} {x y : Option SV} (h0 : ss ≠ []) (hl : ss.length ≤ LIM) : B3 [some (.dat d), some (.dat m), some (.dat o), x, y, some (.dat (.list (ss.map .int))), none] [] =
    some (if evenB ss = true then .nx else .rt (.dat (.bool false)), [some (.dat d), some (.dat m), some (.dat o), x, y, some (.dat (.list (ss.map .int))), none], []) := by
  cases ss with
  | nil => exact absurd rfl h0
  | cons s r =>
    have hc : dComp (iSeq (dVar 5)) (gNm 6) [6] tYes_ (dOr (dBin oNe (dVar 6) (dBin oIx (dVar 5) (dC (.int 0)))) (dBin oLt (dVar 6) (dC (.int 1)))) [some (.dat d), some (.dat m), some (.dat o), x, y, some (.dat (.list ((s :: r).map .int))), none] [] = some (.ptr 0, [.list (((s :: r).map fun i => (i != s) || decide (i < 1)).map .bool)]) := by
      have := dComp_all (fi := iSeq (dVar 5)) (tg := gNm 6) (own := [6]) (te := (dOr (dBin oNe (dVar 6) (dBin oIx (dVar 5) (dC (.int 0)))) (dBin oLt (dVar 6) (dC (.int 1))))) (Γ := [some (.dat d), some (.dat m), some (.dat o), x, y, some (.dat (.list ((s :: r).map .int))), none]) (M0 := []) (M := []) (ds := (s :: r).map .int)
        (fun d => match d with | .int i => .bool ((i != s) || decide (i < 1)) | _ => .none) (by simp) (by simpa using hl) fun d hd acc => by
          obtain ⟨i, _, rfl⟩ := List.mem_map.mp hd
          refine ⟨_, rfl, ?_⟩
          by_cases hi : i = s <;> simp [hi]
      rw [this, List.map_map, List.map_map]
      rfl
    have ha : ((s :: r).map fun i => (i != s) || decide (i < 1)).any id = !evenB (s :: r) := by
      rw [List.any_map]
      unfold evenB
      rw [Bool.eq_iff_iff]
      simp only [List.any_eq_true, Function.comp, id, Bool.or_eq_true, bne_iff_ne, decide_eq_true_eq, Bool.not_eq_true', Bool.and_eq_false_iff, decide_eq_false_iff_not, List.all_eq_false, beq_iff_eq]
      constructor
      · rintro ⟨i, hi, h⟩
        rcases List.mem_cons.mp hi with rfl | hi
        · left; omega
        · by_cases hs : 0 < s
          · right; exact ⟨i, hi, by omega⟩
          · left; exact hs
      · rintro (h | ⟨i, hi, h⟩)
        · exact ⟨s, List.mem_cons_self, by omega⟩
        · exact ⟨i, List.mem_cons_of_mem _ hi, .inl h⟩
    generalize ((s :: r).map fun i => (i != s) || decide (i < 1)) = bs at hc ha
    generalize (s :: r).map PyData.int = sd at hc ⊢
    cases he : evenB (s :: r) <;> simp [hc, ha, he]
theorem law_is_tie_spec {d : D} {m o : Nat} (h : d.plain = true) (hL : ∀ ds, d = .tuple ds → ds.length ≤ 5000) (hm : 0 < m) (hm2 : m ≤ 100) (ho : 0 < o) (ho2 : o ≤ 100) : g__law_is_tie [.dat d, .dat (.int m), .dat (.int o)] [] = some (.bool (tieB m o d), []) := by
  cases d with
  | dict kvs => simp [PyData.plain] at h
  | tuple ds =>
    have hl := hL ds rfl
    have hp := plainAll_mem (show PyData.plainAll ds = true by rw [PyData.plain] at h; exact h)
    cases hn : ds.isEmpty with
    | true => simp [g__law_is_tie, oIsi, isi, oEq_nil h, hn, tieB, lim_e]
    | false =>
      obtain ⟨r1, e1, hr1⟩ := sFor_ind (fi := iSeq (dVar 0)) (tg := gNm 3) (body := B1) (Γ := [some (.dat (.tuple ds)), some (.dat (.int m)), some (.dat (.int o)), none, none, none, none]) (M := []) (M1 := []) (ds := ds) (by simp)
        (fun i Γ M => (∃ x, Γ = [some (.dat (.tuple ds)), some (.dat (.int m)), some (.dat (.int o)), x, none, none, none]) ∧ M = [] ∧ ∀ d ∈ ds.take i, rowOk m o d = true)
        (fun r => (∃ Γ, r = (.rt (.dat (.bool false)), Γ, [])) ∧ ds.all (rowOk m o) = false) ⟨⟨_, rfl⟩, rfl, fun d hd => by simp at hd⟩ fun i d Γ M hd ⟨⟨x, hΓ⟩, hM, hall⟩ => by
          subst hΓ hM
          refine ⟨_, _, rfl, row_spec (hp d (List.mem_of_getElem? hd)), ?_⟩
          cases hk : rowOk m o d with
          | true =>
            refine ⟨⟨_, rfl⟩, rfl, fun e he => ?_⟩
            rw [List.take_add_one, hd] at he
            rcases List.mem_append.mp he with he | he
            · exact hall e he
            · have : e = d := by simpa using he
              rw [this]; exact hk
          | false =>
            refine ⟨⟨_, rfl⟩, ?_⟩
            rw [List.all_eq_false]
            exact ⟨d, List.mem_of_getElem? hd, by rw [hk]; exact Bool.false_ne_true⟩
      rcases hr1 with ⟨⟨Γ, rfl⟩, hbad⟩ | ⟨Γ, M, rfl, ⟨x, rfl⟩, rfl, hall⟩
      · simp [g__law_is_tie, oIsi, isi, oEq_nil h, hn, tieB, lim_e, e1, hbad]
      · rw [List.take_length] at hall
        have hok : ds.all (rowOk m o) = true := List.all_eq_true.mpr hall
        obtain ⟨rs, rfl, hr⟩ := rows_of hall
        have ht : tieB m o (.tuple (rs.map rowD)) = tieR m o rs := by
          unfold tieB
          simp only [hn, hok, unrow_rows]
          simp
        have hlr : rs.length ≤ 5000 := by simpa using hl
        have hpos : 0 < rs.length := by
          cases rs with
          | nil => cases hn
          | cons _ _ => simp
        obtain ⟨r2, e2, hr2⟩ := sFor_ind (fi := iRng (dCons (dBin oSub (dCB bLen (dCons (dVar 0) dNil)) (dC (.int 1))) dNil)) (tg := gNm 4) (body := B2) (Γ := [some (.dat (.tuple (rs.map rowD))), some (.dat (.int m)), some (.dat (.int o)), x, none, none, none]) (M := []) (M1 := []) (ds := rngD 0 (rs.length - 1))
          (by simp; rw [rgw_1 (by omega) (by omega)]; rw [show ((rs.length : Int) - 1).toNat = rs.length - 1 by omega, itR_rng])
          (fun i Γ M => (∃ y, Γ = [some (.dat (.tuple (rs.map rowD))), some (.dat (.int m)), some (.dat (.int o)), x, y, none, none]) ∧ M = [] ∧ ∀ j s t, j < i → rs[j]? = some s → rs[j + 1]? = some t → lt2 s t = true)
          (fun r => (∃ Γ, r = (.rt (.dat (.bool false)), Γ, [])) ∧ asc rs = false) ⟨⟨_, rfl⟩, rfl, fun j s t hj => by omega⟩ fun i d Γ M hd ⟨⟨y, hΓ⟩, hM, hall⟩ => by
            subst hΓ hM
            have hi : i < rs.length - 1 := by
              have := (List.getElem?_eq_some_iff.mp hd).1
              simpa using this
            rw [rngD_get hi] at hd
            cases hd
            have g1 : rs[i]? = some (rs[i]'(by omega)) := List.getElem?_eq_getElem (by omega)
            have g2 : rs[i + 1]? = some (rs[i + 1]'(by omega)) := List.getElem?_eq_getElem (by omega)
            refine ⟨_, _, rfl, step2 g1 g2, ?_⟩
            cases hk : lt2 rs[i] rs[i + 1] with
            | true =>
              refine ⟨⟨_, rfl⟩, rfl, fun j s t hj h1 h2 => ?_⟩
              by_cases hji : j = i
              · subst hji
                rw [g1] at h1
                rw [g2] at h2
                cases h1
                cases h2
                exact hk
              · exact hall j s t (by omega) h1 h2
            | false =>
              refine ⟨⟨_, rfl⟩, ?_⟩
              cases ha : asc rs with
              | false => rfl
              | true => rw [asc_iff.mp ha i _ _ g1 g2] at hk; cases hk
        rcases hr2 with ⟨⟨Γ, rfl⟩, hbad⟩ | ⟨Γ, M, rfl, ⟨y, rfl⟩, rfl, hasc⟩
        · rw [ht]
          simp [g__law_is_tie, oIsi, isi, oEq_nil h, hn, lim_e, e1, e2, hbad, tieR, -List.isEmpty_map]
        · have hasc : asc rs = true := asc_iff.mpr fun j s t h1 h2 => hasc j s t (by
            have := (List.getElem?_eq_some_iff.mp h2).1
            simp; omega) h1 h2
          have u1 : g__law_units [.dat (.tuple (rs.map rowD)), .dat (.int 0), .dat (.int m)] [] = _ := units_spec (rs := rs) (p := 0) (n := m) (by omega) hm2 (by simp [lim_e]; omega)
          have u2 : g__law_units [.dat (.tuple (rs.map rowD)), .dat (.int 1), .dat (.int o)] [] = _ := units_spec (rs := rs) (p := 1) (n := o) (by omega) ho2 (by simp [lim_e]; omega)
          have s1 := fun (x y : Option SV) => step3 (ss := sums 0 rs m) (d := .tuple (rs.map rowD)) (m := .int m) (o := .int o) (x := x) (y := y) (sums_ne hm) (by rw [sums_len]; simp [lim_e]; omega)
          have s2 := fun (x y : Option SV) => step3 (ss := sums 1 rs o) (d := .tuple (rs.map rowD)) (m := .int m) (o := .int o) (x := x) (y := y) (sums_ne ho) (by rw [sums_len]; simp [lim_e]; omega)
          have e3 : sFor (iSeq (dFrz (dLst (dCons (dCall g__law_units (dCons (dVar 0) (dCons (dC (.int 0)) (dCons (dVar 1) dNil)))) (dCons (dCall g__law_units (dCons (dVar 0) (dCons (dC (.int 1)) (dCons (dVar 2) dNil)))) dNil))))) (gNm 5) B3 [some (.dat (.tuple (rs.map rowD))), some (.dat (.int m)), some (.dat (.int o)), x, y, none, none] [] =
              some (if (evenB (sums 0 rs m) && evenB (sums 1 rs o)) = true then .nx else .rt (.dat (.bool false)), [some (.dat (.tuple (rs.map rowD))), some (.dat (.int m)), some (.dat (.int o)), x, y, some (.dat (.list ((if evenB (sums 0 rs m) = true then sums 1 rs o else sums 0 rs m).map .int))), none], []) := by
            have hi : iSeq (dFrz (dLst (dCons (dCall g__law_units (dCons (dVar 0) (dCons (dC (.int 0)) (dCons (dVar 1) dNil)))) (dCons (dCall g__law_units (dCons (dVar 0) (dCons (dC (.int 1)) (dCons (dVar 2) dNil)))) dNil)))) [some (.dat (.tuple (rs.map rowD))), some (.dat (.int m)), some (.dat (.int o)), x, y, none, none] [] = some ((itD [.list ((sums 0 rs m).map .int), .list ((sums 1 rs o).map .int)], 2), []) := by
              generalize (sums 0 rs m).map PyData.int = q0 at u1
              generalize (sums 1 rs o).map PyData.int = q1 at u2
              simp [u1, u2, lim_e]
            unfold sFor
            rw [hi]
            have t1 : ∀ z : Option SV, gNm 5 (.list ((sums 0 rs m).map .int)) [some (.dat (.tuple (rs.map rowD))), some (.dat (.int m)), some (.dat (.int o)), x, y, z, none] = some [some (.dat (.tuple (rs.map rowD))), some (.dat (.int m)), some (.dat (.int o)), x, y, some (.dat (.list ((sums 0 rs m).map .int))), none] := fun _ => rfl
            have t2 : ∀ z : Option SV, gNm 5 (.list ((sums 1 rs o).map .int)) [some (.dat (.tuple (rs.map rowD))), some (.dat (.int m)), some (.dat (.int o)), x, y, z, none] = some [some (.dat (.tuple (rs.map rowD))), some (.dat (.int m)), some (.dat (.int o)), x, y, some (.dat (.list ((sums 1 rs o).map .int))), none] := fun _ => rfl
            have i0 : itD [PyData.list ((sums 0 rs m).map .int), .list ((sums 1 rs o).map .int)] [] 0 = some (some (.list ((sums 0 rs m).map .int))) := rfl
            have i1 : itD [PyData.list ((sums 0 rs m).map .int), .list ((sums 1 rs o).map .int)] [] 1 = some (some (.list ((sums 1 rs o).map .int))) := rfl
            have i2 : itD [PyData.list ((sums 0 rs m).map .int), .list ((sums 1 rs o).map .int)] [] 2 = some none := rfl
            cases h6 : evenB (sums 0 rs m) <;> cases h7 : evenB (sums 1 rs o) <;> simp only [Option.bind_some, forL, i0, i1, i2, t1, t2, s1, s2, h6, h7] <;> simp
          rw [ht]
          cases h6 : evenB (sums 0 rs m) <;> cases h7 : evenB (sums 1 rs o) <;> simp only [h6, h7] at e3 <;> simp [g__law_is_tie, oIsi, isi, oEq_nil h, hn, lim_e, e1, e2, e3, hasc, tieR, h6, h7, -List.isEmpty_map]
  | _ => simp [g__law_is_tie, oIsi, isi, tieB]
end K00
namespace K00
open PySem PySem.Spec PyProof.Rows L2 DL

theorem k_draw {d : D} {m : Int} (hs : IsSt d) (h : 0 < m) (h2 : m < 1073741824) : ∃ v d', g__law_draw [.ptr 0, .dat (.int m)] [d] = some (.int v, [d']) ∧ 0 ≤ v ∧ v < m ∧ IsSt d' := draw_spec hs h h2
theorem shuffled_spec {d : D} {xs : List D} (hs : IsSt d) (hl : xs.length ≤ 10000) : ∃ ys d', g__law_shuffled [.ptr 0, .dat (.list xs)] [d] = some (.list ys, [d']) ∧ ys.Perm xs ∧ IsSt d' := by
  obtain ⟨Γ', M', e, ⟨x, hΓ⟩, ys, d', hM, hp, hs'⟩ := sFor_all (fi := iSeq (dVar 1)) (tg := gNm 3) (body := sExpr (dMethW "list" wInsert (dVar 2) (dCons (dCall g__law_draw (dCons (dVar 0) (dCons (dBin oAdd (dCB bLen (dCons (dVar 2) dNil)) (dC (.int 1))) dNil))) (dCons (dVar 3) dNil))))
    (Γ := [some (.ptr 0), some (.dat (.list xs)), some (.ptr 1), none]) (M := [d, .list []]) (M1 := [d, .list []]) (ds := xs) (by simp)
    (fun i Γ M => (∃ x, Γ = [some (.ptr 0), some (.dat (.list xs)), some (.ptr 1), x]) ∧ ∃ ys d', M = [d', .list ys] ∧ ys.Perm (xs.take i) ∧ IsSt d') ⟨⟨_, rfl⟩, [], d, rfl, by simp, hs⟩ fun i z Γ M hd ⟨⟨x, hΓ⟩, ys, d', hM, hp, hs'⟩ => by
      subst hΓ hM
      have hi := (List.getElem?_eq_some_iff.mp hd).1
      have hyl : ys.length = i := by rw [hp.length_eq, List.length_take]; omega
      obtain ⟨v, d2, e, h0, hv, hs2⟩ := k_draw (m := (ys.length : Int) + 1) hs' (by omega) (by omega)
      refine ⟨_, [some (.ptr 0), some (.dat (.list xs)), some (.ptr 1), some (.dat z)], _, rfl, ?_, ⟨_, rfl⟩, ys.take v.toNat ++ [z] ++ ys.drop v.toNat, d2, rfl, ?_, hs2⟩
      · have hyl2 : ys.length < LIM := by simp [lim_e]; omega
        have hv2 : v ≤ 1000000000 := by omega
        simp [e, hyl2, h0, hv2]
      · have h1 : xs.take (i + 1) = xs.take i ++ [z] := by rw [List.take_add_one, hd]; rfl
        rw [h1, List.append_assoc]
        refine (List.perm_middle (a := z) (l₁ := ys.take v.toNat) (l₂ := ys.drop v.toNat)).trans ?_
        rw [List.take_append_drop]
        exact (List.Perm.cons z hp).trans (List.perm_append_singleton z (xs.take i)).symm
  refine ⟨ys, d', ?_, by rw [List.take_length] at hp; exact hp, hs'⟩
  simp [g__law_shuffled, lim_e, e, hΓ, hM]
end K00
namespace K00
open PySem PySem.Spec PyProof.Rows L2 DL

abbrev Pr := Int × Int
abbrev Cs := List (Pr × Int)
def kd (q : Pr) : D := .tuple [.int q.1, .int q.2]
def ent (e : Pr × Int) : D × D := (kd e.1, .int e.2)
def tab (cs : Cs) : D := .dict ((.none, .none) :: cs.map ent)
theorem nk_kd (q r : Pr) : nk (kd q) = nk (kd r) ↔ q = r := by
  obtain ⟨a, b⟩ := q
  obtain ⟨c, d⟩ := r
  simp [kd, nk, nks]
theorem keyOk_kd (q : Pr) : keyOk (kd q) = true := by
  simp [kd, keyOk, isKeys, isKey, nks, nk, NestedKey.depth, NestedKey.depthAll]
def look : Cs → Pr → Option Int
  | [], _ => none
  | e :: r, q => if e.1 = q then some e.2 else look r q
def bump : Cs → Pr → Cs
  | [], q => [(q, 1)]
  | e :: r, q => if e.1 = q then (e.1, e.2 + 1) :: r else e :: bump r q
theorem dLook_ent (q : Pr) : ∀ cs : Cs, dLook (cs.map ent) (kd q) = (look cs q).map .int
  | [] => rfl
  | e :: r => by
    have ih := dLook_ent q r
    unfold dLook at ih ⊢
    rw [List.map_cons, List.find?_cons]
    unfold look
    by_cases h : e.1 = q
    · rw [if_pos h, decide_eq_true (show nk (ent e).1 = nk (kd q) from (nk_kd _ _).mpr h)]
      rfl
    · rw [if_neg h, decide_eq_false (show ¬ nk (ent e).1 = nk (kd q) from fun z => h ((nk_kd _ _).mp z))]
      exact ih
theorem look_none {q : Pr} : ∀ {cs : Cs}, look cs q = none ↔ q ∉ cs.map (·.1)
  | [] => by simp [look]
  | e :: r => by
    unfold look
    by_cases h : e.1 = q
    · simp [h]
    · rw [if_neg h, look_none (cs := r)]
      simp [h]
      intro; exact fun z => h z.symm
theorem dHas_ent (q : Pr) (cs : Cs) : dHas (cs.map ent) (kd q) = decide (q ∈ cs.map (·.1)) := by
  unfold dHas
  rw [Bool.eq_iff_iff, List.any_eq_true, decide_eq_true_iff, List.mem_map]
  constructor
  · rintro ⟨x, hx, h⟩
    obtain ⟨e, he, rfl⟩ := List.mem_map.mp hx
    exact ⟨e, he, (nk_kd _ _).mp (of_decide_eq_true h)⟩
  · rintro ⟨e, he, rfl⟩
    exact ⟨ent e, List.mem_map.mpr ⟨e, he, rfl⟩, decide_eq_true rfl⟩
theorem put_same {q : Pr} {v : D} : ∀ {cs : Cs}, q ∉ cs.map (·.1) → ((cs.map ent).map fun p => if nk p.1 = nk (kd q) then (p.1, v) else p) = cs.map ent
  | [], _ => rfl
  | e :: r, h => by
    rw [List.map_cons, List.mem_cons, not_or] at h
    rw [List.map_cons, List.map_cons, put_same h.2, if_neg (show ¬ nk (ent e).1 = nk (kd q) from fun z => h.1 ((nk_kd _ _).mp z).symm)]
theorem put_in {q : Pr} {c : Int} : ∀ {cs : Cs}, (cs.map (·.1)).Nodup → look cs q = some c → ((cs.map ent).map fun p => if nk p.1 = nk (kd q) then (p.1, PyData.int (c + 1)) else p) = (bump cs q).map ent
  | [], _, h => by cases h
  | e :: r, hn, h => by
    rw [List.map_cons, List.nodup_cons] at hn
    unfold look at h
    unfold bump
    by_cases hq : e.1 = q
    · rw [if_pos hq] at h ⊢
      cases h
      rw [List.map_cons, List.map_cons, List.map_cons, if_pos (show nk (ent e).1 = nk (kd q) from (nk_kd _ _).mpr hq), put_same (by rw [← hq]; exact hn.1)]
      rfl
    · rw [if_neg hq] at h ⊢
      rw [List.map_cons, List.map_cons, List.map_cons, if_neg (show ¬ nk (ent e).1 = nk (kd q) from fun z => hq ((nk_kd _ _).mp z)), put_in hn.2 h]
theorem bump_new {q : Pr} : ∀ {cs : Cs}, look cs q = none → bump cs q = cs ++ [(q, 1)]
  | [], _ => rfl
  | e :: r, h => by
    unfold look at h
    unfold bump
    by_cases hq : e.1 = q
    · rw [if_pos hq] at h; cases h
    · rw [if_neg hq] at h ⊢
      rw [bump_new h]; rfl
theorem dPut_bump {q : Pr} {cs : Cs} (hn : (cs.map (·.1)).Nodup) : dPut (cs.map ent) (kd q) (.int ((look cs q).getD 0 + 1)) = (bump cs q).map ent := by
  unfold dPut
  rw [dHas_ent]
  cases h : look cs q with
  | none =>
    rw [if_neg (by simpa using look_none.mp h), bump_new h, List.map_append]
    rfl
  | some c =>
    rw [if_pos (by
      rw [decide_eq_true_iff]
      apply Classical.byContradiction
      intro z
      rw [look_none.mpr z] at h
      cases h)]
    exact put_in hn h
theorem bump_keys {q : Pr} : ∀ {cs : Cs}, (bump cs q).map (·.1) = if q ∈ cs.map (·.1) then cs.map (·.1) else cs.map (·.1) ++ [q]
  | [] => by simp [bump]
  | e :: r => by
    unfold bump
    by_cases hq : e.1 = q
    · rw [if_pos hq, if_pos (by rw [List.map_cons, hq]; exact List.mem_cons_self)]; rfl
    · rw [if_neg hq, List.map_cons, bump_keys (cs := r)]
      by_cases hm : q ∈ r.map (·.1)
      · rw [if_pos hm, if_pos (by rw [List.map_cons]; exact List.mem_cons_of_mem _ hm), List.map_cons]
      · rw [if_neg hm, if_neg (by rw [List.map_cons, List.mem_cons, not_or]; exact ⟨fun z => hq z.symm, hm⟩)]; rfl
theorem bump_nodup {q : Pr} {cs : Cs} (hn : (cs.map (·.1)).Nodup) : ((bump cs q).map (·.1)).Nodup := by
  rw [bump_keys]
  by_cases hm : q ∈ cs.map (·.1)
  · rw [if_pos hm]; exact hn
  · rw [if_neg hm]
    rw [List.nodup_append]
    refine ⟨hn, by simp, fun a ha b hb e => ?_⟩
    rw [List.mem_singleton.mp hb] at e
    rw [e] at ha
    exact hm ha
theorem bump_mem {q : Pr} {P : Pr → Prop} (hq : P q) : ∀ {cs : Cs}, (∀ e ∈ cs, P e.1 ∧ 0 < e.2) → ∀ e ∈ bump cs q, P e.1 ∧ 0 < e.2
  | [], _, e, he => by
    unfold bump at he
    rw [List.mem_singleton.mp he]
    exact ⟨hq, Int.one_pos⟩
  | x :: r, h, e, he => by
    unfold bump at he
    have hx := h x List.mem_cons_self
    by_cases hxq : x.1 = q
    · rw [if_pos hxq] at he
      rcases List.mem_cons.mp he with rfl | he
      · exact ⟨hx.1, by have := hx.2; show 0 < x.2 + 1; omega⟩
      · exact h e (List.mem_cons_of_mem _ he)
    · rw [if_neg hxq] at he
      rcases List.mem_cons.mp he with rfl | he
      · exact hx
      · exact bump_mem hq (fun e he => h e (List.mem_cons_of_mem _ he)) e he
theorem bump_len {q : Pr} : ∀ {cs : Cs}, (bump cs q).length ≤ cs.length + 1
  | [] => by simp [bump]
  | e :: r => by
    unfold bump
    by_cases hq : e.1 = q
    · rw [if_pos hq]; simp
    · rw [if_neg hq]
      have := bump_len (q := q) (cs := r)
      simp; omega
/-- the weights of the keys of a kind -/
def W (P : Pr → Bool) (cs : Cs) : Int := ((cs.filter fun e => P e.1).map (·.2)).sum
theorem W_cons (P : Pr → Bool) (e : Pr × Int) (cs : Cs) : W P (e :: cs) = (if P e.1 = true then e.2 else 0) + W P cs := by
  unfold W
  by_cases h : P e.1 = true
  · simp [h]
  · simp [h]
theorem W_bump (P : Pr → Bool) (q : Pr) : ∀ cs : Cs, W P (bump cs q) = W P cs + if P q = true then 1 else 0
  | [] => by
    show W P [(q, 1)] = _
    rw [W_cons]
    show _ + (0 : Int) = 0 + _
    simp
  | e :: r => by
    unfold bump
    by_cases hq : e.1 = q
    · rw [if_pos hq, W_cons, W_cons, hq]
      split <;> omega
    · rw [if_neg hq, W_cons, W_cons, W_bump P q r]
      omega
def prs (ls rs : List Int) : List Pr := ls.zip rs
theorem keyOk_t {a b : Int} : keyOk (.tuple [.int a, .int b]) = true := keyOk_kd (a, b)
abbrev T2 : DS := (sSub (dBin oAdd (dMeth "dict" mGet (dVar 3) (dCons (dTup (dCons (dBin oIx (dVar 5) (dVar 7)) (dCons (dBin oIx (dVar 6) (dVar 7)) dNil))) (dCons (dC (.int 0)) dNil))) (dC (.int 1))) (dVar 3) (dTup (dCons (dBin oIx (dVar 5) (dVar 7)) (dCons (dBin oIx (dVar 6) (dVar 7)) dNil))))
/-- what a table holds -/
structure Good (P : Pr → Prop) (n : Nat) (cs : Cs) : Prop where
  nd : (cs.map (·.1)).Nodup
  mem : ∀ e ∈ cs, P e.1 ∧ 0 < e.2
  len : cs.length ≤ n
theorem Good.bump {P : Pr → Prop} {n : Nat} {cs : Cs} {q : Pr} (g : Good P n cs) (hq : P q) : Good P (n + 1) (bump cs q) :=
  ⟨bump_nodup g.nd, bump_mem hq g.mem, Nat.le_trans bump_len (Nat.add_le_add_right g.len 1)⟩
theorem turn_step {ls rs : List Int} {st m o : D} {x : Option SV} {cs : Cs} {P : Pr → Prop} {n k : Nat} {a b : Int} (g : Good P n cs) (hn : n < 1000) (h1 : ls[k]? = some a) (h2 : rs[k]? = some b) :
    T2 [some (.ptr 0), some (.dat m), some (.dat o), some (.ptr 1), x, some (.dat (.list (ls.map .int))), some (.dat (.list (rs.map .int))), some (.dat (.int (0 + (k : Nat)))), none] [st, tab cs] =
      some (.nx, [some (.ptr 0), some (.dat m), some (.dat o), some (.ptr 1), x, some (.dat (.list (ls.map .int))), some (.dat (.list (rs.map .int))), some (.dat (.int (0 + (k : Nat)))), none], [st, tab (bump cs (a, b))]) := by
  have q1 : atI (ls.map PyData.int) ((k : Nat) : Int) = some (.int a) := DL.atI_nat (by rw [List.getElem?_map, h1]; rfl)
  have q2 : atI (rs.map PyData.int) ((k : Nat) : Int) = some (.int b) := DL.atI_nat (by rw [List.getElem?_map, h2]; rfl)
  have hg : mGet (tab cs) [.tuple [.int a, .int b], .int 0] = some (.dat (.int ((look cs (a, b)).getD 0))) := by
    show (if keyOk (kd (a, b)) = true then some (OR.dat ((dLook (cs.map ent) (kd (a, b))).getD (.int 0))) else none) = _
    rw [if_pos (keyOk_kd _), dLook_ent]
    cases look cs (a, b) <;> rfl
  have hs : oSet (tab cs) (.tuple [.int a, .int b]) (.int ((look cs (a, b)).getD 0 + 1)) = some (tab (bump cs (a, b))) := by
    show (if keyOk (kd (a, b)) = true ∧ (cs.map ent).length < LIM then some (PyData.dict ((.none, .none) :: dPut (cs.map ent) (kd (a, b)) _)) else none) = _
    rw [if_pos ⟨keyOk_kd _, by have := g.len; simp [lim_e]; omega⟩, dPut_bump g.nd]
    rfl
  have ht : tyD "dict" (tab cs) = true := rfl
  generalize tab cs = T at hg hs ht ⊢
  simp [q1, q2, hg, hs, ht, lim_e, -atI_nn]
abbrev L2' : DS := sFor (iRng (dCons (dCB bLen (dCons (dVar 5) dNil)) dNil)) (gNm 7) T2
theorem inner {ls rs : List Int} {st m o : D} {x y : Option SV} {cs : Cs} {P : Pr → Prop} {n : Nat} (g : Good P n cs) (hlen : rs.length = ls.length) (hn : n + ls.length < 1000) (hP : ∀ q ∈ ls.zip rs, P q) :
    ∃ y' cs', L2' [some (.ptr 0), some (.dat m), some (.dat o), some (.ptr 1), x, some (.dat (.list (ls.map .int))), some (.dat (.list (rs.map .int))), y, none] [st, tab cs] =
      some (.nx, [some (.ptr 0), some (.dat m), some (.dat o), some (.ptr 1), x, some (.dat (.list (ls.map .int))), some (.dat (.list (rs.map .int))), y', none], [st, tab cs']) ∧ Good P (n + ls.length) cs' ∧ ∀ Q : Pr → Bool, W Q cs' = W Q cs + (((ls.zip rs).filter Q).length : Nat) := by
  obtain ⟨Γ', M', e, ⟨y', hΓ⟩, cs', hM, hg, hW⟩ := sFor_all (fi := iRng (dCons (dCB bLen (dCons (dVar 5) dNil)) dNil)) (tg := gNm 7) (body := T2) (Γ := [some (.ptr 0), some (.dat m), some (.dat o), some (.ptr 1), x, some (.dat (.list (ls.map .int))), some (.dat (.list (rs.map .int))), y, none]) (M := [st, tab cs]) (M1 := [st, tab cs]) (ds := rngD 0 ls.length)
    (by simp; rw [rgw_1 (by omega) (by omega)]; simp [itR_rng])
    (fun i Γ M => (∃ y', Γ = [some (.ptr 0), some (.dat m), some (.dat o), some (.ptr 1), x, some (.dat (.list (ls.map .int))), some (.dat (.list (rs.map .int))), y', none]) ∧ ∃ cs', M = [st, tab cs'] ∧ Good P (n + i) cs' ∧ ∀ Q : Pr → Bool, W Q cs' = W Q cs + ((((ls.zip rs).take i).filter Q).length : Nat))
    ⟨⟨_, rfl⟩, cs, rfl, g, fun Q => by simp⟩ fun i d Γ M hd ⟨⟨y', hΓ⟩, cs', hM, hg, hW⟩ => by
      subst hΓ hM
      have hi : i < ls.length := by
        have := (List.getElem?_eq_some_iff.mp hd).1
        simpa using this
      rw [rngD_get hi] at hd
      cases hd
      have h1 : ls[i]? = some ls[i] := List.getElem?_eq_getElem hi
      have h2 : rs[i]? = some (rs[i]'(by omega)) := List.getElem?_eq_getElem (by omega)
      have hz : (ls.zip rs)[i]? = some (ls[i], rs[i]'(by omega)) := by
        rw [List.getElem?_zip_eq_some]
        exact ⟨h1, h2⟩
      refine ⟨_, _, _, rfl, turn_step hg (by omega) h1 h2, ⟨_, rfl⟩, _, rfl, hg.bump (hP _ (List.mem_of_getElem? hz)), fun Q => ?_⟩
      rw [W_bump, hW, List.take_add_one, hz, List.filter_append, List.length_append]
      by_cases hQ : Q (ls[i], rs[i]'(by omega)) = true
      · rw [if_pos hQ]
        simp [hQ]
        omega
      · rw [if_neg hQ]
        simp [hQ]
  refine ⟨y', cs', ?_, by simpa using hg, fun Q => ?_⟩
  · show sFor _ _ _ _ _ = _
    rw [e, hΓ, hM]
  · have := hW Q
    rw [List.take_of_length_le (by simp; omega)] at this
    exact this
theorem perm_ints {ys : List D} {its : List Int} (h : ys.Perm (its.map .int)) : ∃ ls : List Int, ys = ls.map PyData.int ∧ ls.Perm its := by
  refine ⟨ys.map fun d => match d with | .int i => i | _ => 0, ?_, ?_⟩
  · rw [List.map_map]
    refine (List.map_id ys).symm.trans (List.map_congr_left fun d hd => ?_)
    obtain ⟨i, _, rfl⟩ := List.mem_map.mp (h.mem_iff.mp hd)
    rfl
  · have := h.map fun d : D => match d with | .int i => i | _ => 0
    rw [List.map_map] at this
    refine this.trans ?_
    have e : its.map ((fun d : D => match d with | .int i => i | _ => 0) ∘ PyData.int) = its := (List.map_congr_left fun i _ => rfl).trans (List.map_id its)
    rw [e]
/-- n copies of 0 .. m - 1 -/
def rep (m n : Nat) : List Int := (List.replicate n ((List.range m).map fun i : Nat => (i : Int))).flatten
theorem rep_len (m n : Nat) : (rep m n).length = n * m := by simp [rep]
theorem rep_mem {m n : Nat} {a : Int} (h : a ∈ rep m n) : 0 ≤ a ∧ a < m := by
  unfold rep at h
  obtain ⟨l, hl, ha⟩ := List.mem_flatten.mp h
  rw [List.mem_replicate] at hl
  rw [hl.2] at ha
  obtain ⟨x, hx, rfl⟩ := List.mem_map.mp ha
  rw [List.mem_range] at hx
  omega
theorem range_count : ∀ (m i : Nat), (((List.range m).map fun i : Nat => (i : Int)).filter fun a => decide (a = (i : Int))).length = if i < m then 1 else 0
  | 0, i => by simp
  | m + 1, i => by
    rw [List.range_succ, List.map_append, List.filter_append, List.length_append, range_count m i]
    by_cases h : i = m
    · subst h; simp
    · have : ¬ m = i := fun z => h z.symm
      by_cases h2 : i < m
      · rw [if_pos h2, if_pos (by omega)]; simp; omega
      · rw [if_neg h2, if_neg (by omega)]; simp; omega
theorem rep_count {m i : Nat} (h : i < m) : ∀ n : Nat, ((rep m n).filter fun a => decide (a = (i : Int))).length = n
  | 0 => by simp [rep]
  | n + 1 => by
    have ih := rep_count h n
    unfold rep at ih ⊢
    rw [List.replicate_succ, List.flatten_cons, List.filter_append, List.length_append, ih, range_count, if_pos h]
    omega
theorem rg_rep {m n : Nat} (hm : m ≤ 100) (hn : n ≤ 100) : oMul (.list (rgD 0 m)) (.int n) = some (.new (.list ((rep m n).map .int))) := by
  have hr : rgD 0 m = ((List.range m).map fun i : Nat => (i : Int)).map .int := by
    unfold rgD
    rw [List.map_map]
    simp
  have hl : (rgD 0 m).length = m := by rw [hr]; simp
  show (if (decide (-1000000 ≤ (n : Int)) && decide ((n : Int) ≤ 1000000) && decide ((rgD 0 m).length * (n : Int).toNat ≤ LIM)) = true then some (OR.new (.list (List.replicate (n : Int).toNat (rgD 0 m)).flatten)) else none) = _
  have hb : m * n ≤ 10000 := by
    calc m * n ≤ 100 * 100 := Nat.mul_le_mul hm hn
      _ = 10000 := rfl
  rw [if_pos, Int.toNat_natCast, hr]
  · rw [rep, List.map_flatten, List.map_replicate]
  · simp [lim_e, hl]
    omega
end K00
namespace K00
open PySem PySem.Spec PyProof.Rows L2 DL
abbrev T1 : DS := (sSeq (sAsg 5 (dCall g__law_shuffled (dCons (dVar 0) (dCons (dFrz (dBin oMul (dFrz (oLstRg1 (dVar 1))) (dVar 2))) dNil))))
  (sSeq (sAsg 6 (dFrz (dBin oMul (dFrz (oLstRg1 (dVar 2))) (dVar 1))))
  L2'))
def InP (m o : Nat) (q : Pr) : Prop := 0 ≤ q.1 ∧ q.1 < m ∧ 0 ≤ q.2 ∧ q.2 < o
theorem zip_fst {ls rs : List Int} (h : ls.length ≤ rs.length) (p : Int → Bool) : ((ls.zip rs).filter fun q => p q.1).length = (ls.filter p).length := by
  have e : ((ls.zip rs).map Prod.fst).filter p = ((ls.zip rs).filter fun q => p q.1).map Prod.fst := by rw [List.filter_map]; rfl
  rw [List.map_fst_zip h] at e
  rw [e, List.length_map]
theorem zip_snd {ls rs : List Int} (h : rs.length ≤ ls.length) (p : Int → Bool) : ((ls.zip rs).filter fun q => p q.2).length = (rs.filter p).length := by
  have e : ((ls.zip rs).map Prod.snd).filter p = ((ls.zip rs).filter fun q => p q.2).map Prod.snd := by rw [List.filter_map]; rfl
  rw [List.map_snd_zip h] at e
  rw [e, List.length_map]
/-- the table after t turns -/
structure Turns (m o t : Nat) (cs : Cs) : Prop where
  good : Good (InP m o) (t * (o * m)) cs
  left : ∀ i, i < m → W (fun q => decide (q.1 = (i : Int))) cs = (t * o : Nat)
  right : ∀ j, j < o → W (fun q => decide (q.2 = (j : Int))) cs = (t * m : Nat)
theorem outer {m o t : Nat} {st : D} {x x5 x6 x7 : Option SV} {cs : Cs} (hs : IsSt st) (T : Turns m o t cs) (hm : m ≤ 6) (ho : o ≤ 6) (ht : t < 3) :
    ∃ y5 y6 y7 st' cs', T1 [some (.ptr 0), some (.dat (.int m)), some (.dat (.int o)), some (.ptr 1), x, x5, x6, x7, none] [st, tab cs] =
      some (.nx, [some (.ptr 0), some (.dat (.int m)), some (.dat (.int o)), some (.ptr 1), x, y5, y6, y7, none], [st', tab cs']) ∧ IsSt st' ∧ Turns m o (t + 1) cs' := by
  have hmo : o * m ≤ 36 := Nat.mul_le_mul ho hm
  have hmo2 : m * o ≤ 36 := Nat.mul_le_mul hm ho
  have htmo : t * (o * m) ≤ 2 * 36 := Nat.mul_le_mul (by omega) hmo
  obtain ⟨ys, st', e1, hp, hs'⟩ := shuffled_spec (xs := (rep m o).map .int) hs (by rw [List.length_map, rep_len]; omega)
  obtain ⟨ls, rfl, hpl⟩ := perm_ints hp
  clear hp
  have hll : ls.length = o * m := by rw [hpl.length_eq, rep_len]
  have hrl : (rep o m).length = ls.length := by rw [rep_len, hll, Nat.mul_comm]
  have m1 : oMul (.list (rgD 0 m)) (.int o) = some (.new (.list ((rep m o).map .int))) := rg_rep (by omega) (by omega)
  have m2 : oMul (.list (rgD 0 o)) (.int m) = some (.new (.list ((rep o m).map .int))) := rg_rep (by omega) (by omega)
  have hP : ∀ q ∈ ls.zip (rep o m), InP m o q := fun q hq => by
    obtain ⟨a, b⟩ := q
    obtain ⟨h1, h2⟩ := List.of_mem_zip hq
    have a1 := rep_mem (hpl.mem_iff.mp h1)
    have a2 := rep_mem h2
    exact ⟨a1.1, a1.2, a2.1, a2.2⟩
  obtain ⟨y7, cs', e2, hg, hW⟩ := inner (ls := ls) (rs := rep o m) (st := st') (m := .int m) (o := .int o) (x := x) (y := x7) T.good hrl (by omega) hP
  refine ⟨some (.dat (.list (ls.map .int))), some (.dat (.list ((rep o m).map .int))), y7, st', cs', ?_, hs', ⟨by rw [Nat.succ_mul]; rw [hll] at hg; exact hg, fun i hi => ?_, fun j hj => ?_⟩⟩
  · generalize tab cs = T0 at e2 ⊢
    generalize (rep m o).map PyData.int = I1 at e1 m1
    generalize (rep o m).map PyData.int = I2 at e2 m2
    generalize ls.map PyData.int = I3 at e1 e2
    have hb1 : -1000000 ≤ (m : Int) := by omega
    have hb2 : (m : Int) ≤ 1000000 := by omega
    have hb3 : -1000000 ≤ (o : Int) := by omega
    have hb4 : (o : Int) ≤ 1000000 := by omega
    show sSeq _ (sSeq _ L2') _ _ = _
    generalize hL : L2' = LL at e2 ⊢
    simp [e1, m1, m2, hb2, hb4]
    exact e2
  · rw [hW, T.left i hi, zip_fst (p := fun a => decide (a = (i : Int))) (by omega), (hpl.filter _).length_eq, rep_count hi, Nat.succ_mul]
    omega
  · rw [hW, T.right j hj, zip_snd (p := fun a => decide (a = (j : Int))) (by omega), rep_count hj, Nat.succ_mul]
    omega
theorem alike_kd (p q : Pr) : PySem.W.alike (kd p) (kd q) = true := by simp [kd, PySem.W.alike, PySem.W.alikeAll]
theorem sortOk_kd {ks : List Pr} (h : ks.length ≤ LIM) : sortOk (ks.map kd) = true := by
  unfold sortOk
  simp only [Bool.and_eq_true, decide_eq_true_eq, Bool.or_eq_true, List.all_eq_true]
  refine ⟨⟨⟨fun d hd e he => ?_, .inl fun d hd => ?_⟩, fun d hd => ?_⟩, by rw [List.length_map]; exact h⟩
  · obtain ⟨p, _, rfl⟩ := List.mem_map.mp hd
    obtain ⟨q, _, rfl⟩ := List.mem_map.mp he
    exact alike_kd p q
  · obtain ⟨p, _, rfl⟩ := List.mem_map.mp hd
    rfl
  · obtain ⟨p, _, rfl⟩ := List.mem_map.mp hd
    simp [kd, PyData.plain, PyData.plainAll, PyData.depth, PyData.depthAll]
def le2 (p q : Pr) : Bool := decide (p.1 < q.1 ∨ (p.1 = q.1 ∧ p.2 ≤ q.2))
theorem srt_kd (ks : List Pr) : srt (ks.map kd) = (ks.mergeSort le2).map kd := by
  unfold srt
  refine (List.map_mergeSort fun a _ b _ => ?_).symm
  exact (congrFun (congrFun (PySem.W.dataLe_ii (fun q : Pr => q.1) fun q : Pr => q.2) a) b).symm
theorem le2_sorted (ks : List Pr) : (ks.mergeSort le2).Pairwise fun p q => le2 p q = true := by
  refine List.pairwise_mergeSort (fun a b c h1 h2 => ?_) (fun a b => ?_) ks
  · unfold le2 at h1 h2 ⊢
    rw [decide_eq_true_iff] at h1 h2 ⊢
    omega
  · unfold le2
    rw [Bool.or_eq_true, decide_eq_true_iff, decide_eq_true_iff]
    omega
/-- the row of a key -/
def rowOf (cs : Cs) (q : Pr) : Row := (q.1, q.2, (look cs q).getD 0)
theorem look_mem {cs : Cs} (hn : (cs.map (·.1)).Nodup) {e : Pr × Int} (he : e ∈ cs) : look cs e.1 = some e.2 := by
  induction cs with
  | nil => cases he
  | cons x r ih =>
    rw [List.map_cons, List.nodup_cons] at hn
    unfold look
    rcases List.mem_cons.mp he with rfl | he
    · rw [if_pos rfl]
    · rw [if_neg, ih hn.2 he]
      intro z
      exact hn.1 (z ▸ List.mem_map.mpr ⟨e, he, rfl⟩)
theorem rows_keys {cs : Cs} (hn : (cs.map (·.1)).Nodup) : (cs.map (·.1)).map (rowOf cs) = cs.map fun e => (e.1.1, e.1.2, e.2) := by
  rw [List.map_map]
  refine List.map_congr_left fun e he => ?_
  show (e.1.1, e.1.2, (look cs e.1).getD 0) = _
  rw [look_mem hn he]; rfl
theorem perm_sum {a b : List Int} (h : a.Perm b) : a.sum = b.sum := by
  induction h with
  | nil => rfl
  | cons x _ ih => simp [ih]
  | swap x y l => simp; omega
  | trans _ _ h1 h2 => rw [h1, h2]
theorem sumAt_perm {rs rs' : List Row} (h : rs.Perm rs') (p i : Nat) : sumAt p rs i = sumAt p rs' i := perm_sum ((h.filter _).map _)
theorem sumAt_W {cs : Cs} (p i : Nat) : sumAt p (cs.map fun e => (e.1.1, e.1.2, e.2)) i = W (fun q => decide ((if p = 0 then q.1 else q.2) = (i : Int))) cs := by
  unfold sumAt W
  rw [List.filter_map, List.map_map]
  rfl
theorem evenB_rep {n : Nat} {c : Int} (hn : 0 < n) (hc : 0 < c) {ss : List Int} (h : ss.length = n) (hs : ∀ x ∈ ss, x = c) : evenB ss = true := by
  cases ss with
  | nil => simp at h; omega
  | cons s r =>
    have h1 := hs s List.mem_cons_self
    subst h1
    show (decide (0 < s) && r.all (· == s)) = true
    rw [decide_eq_true hc, Bool.true_and, List.all_eq_true]
    intro x hx
    rw [beq_iff_eq]
    exact hs x (List.mem_cons_of_mem _ hx)
def unkd : D → Pr
  | .tuple [.int a, .int b] => (a, b)
  | _ => (0, 0)
theorem asc_of {cs : Cs} {ps : List Pr} (hp : ps.Pairwise fun p q => le2 p q = true) (hn : ps.Nodup) : asc (ps.map (rowOf cs)) = true := by
  rw [asc_iff]
  intro j s t h1 h2
  rw [List.getElem?_map] at h1 h2
  obtain ⟨p, hp1, rfl⟩ := Option.map_eq_some_iff.mp h1
  obtain ⟨q, hq1, rfl⟩ := Option.map_eq_some_iff.mp h2
  obtain ⟨l1, e1⟩ := List.getElem?_eq_some_iff.mp hp1
  obtain ⟨l2, e2⟩ := List.getElem?_eq_some_iff.mp hq1
  have hle := List.pairwise_iff_getElem.mp hp j (j + 1) l1 l2 (by omega)
  have hne := List.pairwise_iff_getElem.mp hn j (j + 1) l1 l2 (by omega)
  rw [e1, e2] at hle hne
  unfold le2 at hle
  rw [decide_eq_true_iff] at hle
  show decide (p.1 < q.1 ∨ (p.1 = q.1 ∧ p.2 < q.2)) = true
  rw [decide_eq_true_iff]
  rcases hle with h | ⟨h, h'⟩
  · exact .inl h
  · refine .inr ⟨h, ?_⟩
    have : p.2 ≠ q.2 := fun z => hne (Prod.ext h z)
    omega
/-- what is known of a drawn tie -/
structure Tie (m o : Nat) (rs : List Row) : Prop where
  len : rs.length ≤ 200
  ne : rs ≠ []
  rng : ∀ t ∈ rs, InR m o t
  asc : asc rs = true
  e0 : evenB (sums 0 rs m) = true
  e1 : evenB (sums 1 rs o) = true
theorem some_tie_spec {d : D} {m o : Nat} (hs : IsSt d) (hm0 : 0 < m) (hm : m ≤ 6) (ho0 : 0 < o) (ho : o ≤ 6) :
    ∃ rs d', g__law_some_tie [.ptr 0, .dat (.int m), .dat (.int o)] [d] = some (.tuple (rs.map rowD), [d']) ∧ IsSt d' ∧ Tie m o rs := by
  obtain ⟨v, d1, e1, h0, hv, hs1⟩ := k_draw (m := 3) hs (by decide) (by decide)
  obtain ⟨T, hT⟩ := Int.eq_ofNat_of_zero_le (show 0 ≤ 1 + v by omega)
  have hmo : o * m ≤ 36 := Nat.mul_le_mul ho hm
  have hi : iRng (dCons (dBin oAdd (dC (.int 1)) (dCall g__law_draw (dCons (dVar 0) (dCons (dC (.int 3)) dNil)))) dNil) [some (.ptr 0), some (.dat (.int m)), some (.dat (.int o)), some (.ptr 1), none, none, none, none, none] [d, tab []] = some ((itD (rngD 0 T), (rngD 0 T).length), [d1, tab []]) := by
    simp [e1]
    rw [hT, rgw_1 (by omega) (by omega)]
    simp [itR_rng]
  obtain ⟨Γ', M', e2, ⟨x4, x5, x6, x7, hΓ⟩, st, cs, hM, hst, ht⟩ := sFor_all hi (tg := gNm 4) (body := T1)
    (fun i Γ M => (∃ x4 x5 x6 x7, Γ = [some (.ptr 0), some (.dat (.int m)), some (.dat (.int o)), some (.ptr 1), x4, x5, x6, x7, none]) ∧ ∃ st cs, M = [st, tab cs] ∧ IsSt st ∧ Turns m o i cs)
    ⟨⟨_, _, _, _, rfl⟩, d1, [], rfl, hs1, ⟨⟨.nil, fun _ h => (nomatch h), by simp⟩, fun i _ => by simp [W], fun i _ => by simp [W]⟩⟩ fun i d Γ M hd ⟨⟨x4, x5, x6, x7, hΓ⟩, st, cs, hM, hst, ht⟩ => by
      subst hΓ hM
      have hi : i < T := by
        have := (List.getElem?_eq_some_iff.mp hd).1
        simpa using this
      rw [rngD_get hi] at hd
      cases hd
      obtain ⟨y5, y6, y7, st', cs', e, h1, h2⟩ := outer (x := some (.dat (.int (0 + i)))) (x5 := x5) (x6 := x6) (x7 := x7) hst ht hm ho (by omega)
      exact ⟨_, _, _, rfl, e, ⟨_, _, _, _, rfl⟩, st', cs', rfl, h1, h2⟩
  rw [rngD_length] at ht
  have hTp : 0 < T := by omega
  have hkl : (cs.map (·.1)).length ≤ 108 := by
    rw [List.length_map]
    have h1 := ht.good.len
    have h2 : T * (o * m) ≤ 3 * 36 := Nat.mul_le_mul (by omega) hmo
    omega
  have hps : (cs.map (·.1)).mergeSort le2 |>.Perm (cs.map (·.1)) := List.mergeSort_perm _ _
  have hnd : ((cs.map (·.1)).mergeSort le2).Nodup := hps.nodup_iff.mpr ht.good.nd
  have hso : bSorted [tab cs] = some (.new (.list (((cs.map (·.1)).mergeSort le2).map kd))) := by
    have hsq : seqOf (tab cs) = some ((cs.map (·.1)).map kd) := by
      show some ((cs.map ent).map (·.1)) = _
      rw [List.map_map, List.map_map]; rfl
    simp only [bSorted, hsq, Option.bind_some]
    rw [if_pos (sortOk_kd (by simp [lim_e]; simp at hkl; omega)), srt_kd]
  refine ⟨((cs.map (·.1)).mergeSort le2).map (rowOf cs), st, ?_, hst, ?_⟩
  · have hpl : ((cs.map (·.1)).mergeSort le2).length ≤ 108 := by rw [hps.length_eq]; exact hkl
    have hmem : ∀ q ∈ (cs.map (·.1)).mergeSort le2, ∃ c, look cs q = some c := fun q hq => by
      obtain ⟨e, he, rfl⟩ := List.mem_map.mp (hps.mem_iff.mp hq)
      exact ⟨_, look_mem ht.good.nd he⟩
    generalize (cs.map (·.1)).mergeSort le2 = ps at hso hpl hmem ⊢
    have hsq : iSeq (dFrz (dCB bSorted (dCons (dVar 3) dNil))) [some (.ptr 0), some (.dat (.int m)), some (.dat (.int o)), some (.ptr 1), x4, x5, x6, x7, none] [st, tab cs] = some ((itD (ps.map kd), (ps.map kd).length), [st, tab cs]) := by
      generalize ps.map kd = pk at hso ⊢
      simp [hso]
    have hc := dComp_all (fi := iSeq (dFrz (dCB bSorted (dCons (dVar 3) dNil)))) (tg := gNm 8) (own := [8]) (te := dBin oAdd (dVar 8) (dTup (dCons (dBin oIx (dVar 3) (dVar 8)) dNil))) (Γ := [some (.ptr 0), some (.dat (.int m)), some (.dat (.int o)), some (.ptr 1), x4, x5, x6, x7, none]) (M0 := [st, tab cs]) (M := [st, tab cs]) (ds := ps.map kd)
      (fun d => rowD (rowOf cs (unkd d))) hsq (by simp [lim_e]; omega) fun d hd acc => by
        obtain ⟨q, hq, rfl⟩ := List.mem_map.mp hd
        obtain ⟨c, hc⟩ := hmem q hq
        have hix : oIx (tab cs) (kd q) = some (.dat (.int c)) := by
          show (if keyOk (kd q) = true then (dLook (cs.map ent) (kd q)).map OR.dat else none) = _
          rw [if_pos (keyOk_kd q), dLook_ent, hc]; rfl
        have hr : rowD (rowOf cs (unkd (kd q))) = .tuple [.int q.1, .int q.2, .int c] := by
          show PyData.tuple [.int q.1, .int q.2, .int ((look cs q).getD 0)] = _
          rw [hc]; rfl
        refine ⟨_, rfl, ?_⟩
        rw [hr]
        generalize tab cs = T0 at hix ⊢
        have ha : oAdd (kd q) (.tuple [.int c]) = some (.dat (.tuple [.int q.1, .int q.2, .int c])) := by
          show (if 2 + 1 ≤ LIM then _ else none) = _
          rfl
        simp [hix, lim_e, ha]
    have hrr : (ps.map kd).map (fun d => rowD (rowOf cs (unkd d))) = (ps.map (rowOf cs)).map rowD := by
      rw [List.map_map, List.map_map]; rfl
    rw [hrr] at hc
    generalize (ps.map (rowOf cs)).map rowD = res at hc ⊢
    generalize hT1 : T1 = tt at e2
    have ht1 : tab [] = .dict [(.none, .none)] := rfl
    generalize tab cs = T0 at hM hc
    rw [ht1] at e2
    unfold g__law_some_tie
    show dFun 9 (sSeq _ (sSeq (sFor _ _ T1) _)) _ _ = _
    rw [hT1]
    simp [e2, hΓ, hM, hc]
  · have hrows := rows_keys ht.good.nd
    have hperm : (((cs.map (·.1)).mergeSort le2).map (rowOf cs)).Perm (cs.map fun e => (e.1.1, e.1.2, e.2)) := by
      rw [← hrows]
      exact hps.map _
    refine ⟨?_, ?_, fun t htm => ?_, asc_of (le2_sorted _) hnd, ?_, ?_⟩
    · rw [List.length_map, hps.length_eq]; omega
    · intro z
      have h1 := hperm.length_eq
      rw [z] at h1
      have h2 : cs = [] := by
        cases cs with
        | nil => rfl
        | cons _ _ => simp at h1
      have h3 := ht.left 0 hm0
      rw [h2] at h3
      have h4 : 0 < T * o := Nat.mul_pos hTp ho0
      simp [W] at h3
      omega
    · obtain ⟨e, he, rfl⟩ := List.mem_map.mp (hperm.mem_iff.mp htm)
      obtain ⟨⟨h1, h2, h3, h4⟩, h5⟩ := ht.good.mem e he
      exact ⟨h1, h2, h3, h4, h5⟩
    · refine evenB_rep (n := m) (c := (T * o : Nat)) hm0 (by have := Nat.mul_pos hTp ho0; omega) sums_len fun x hx => ?_
      obtain ⟨i, hi, rfl⟩ := List.mem_map.mp hx
      rw [sumAt_perm hperm, sumAt_W]
      exact ht.left i (List.mem_range.mp hi)
    · refine evenB_rep (n := o) (c := (T * m : Nat)) ho0 (by have := Nat.mul_pos hTp hm0; omega) sums_len fun x hx => ?_
      obtain ⟨i, hi, rfl⟩ := List.mem_map.mp hx
      rw [sumAt_perm hperm, sumAt_W]
      exact ht.right i (List.mem_range.mp hi)
end K00
namespace K00
open PySem PySem.Spec PyProof.Rows L2 DL
theorem one_of_spec {d : D} {xs : List D} (hs : IsSt d) (h0 : xs ≠ []) (hl : xs.length ≤ 10000) : ∃ x d', g__law_one_of [.ptr 0, .dat (.list xs)] [d] = some (x, [d']) ∧ x ∈ xs ∧ IsSt d' := by
  have hp : 0 < xs.length := List.length_pos_iff.mpr h0
  obtain ⟨v, d2, e, g0, hv, hs2⟩ := k_draw (m := xs.length) hs (by omega) (by omega)
  have hx : xs[v.toNat]? = some (xs[v.toNat]'(by omega)) := List.getElem?_eq_getElem (by omega)
  refine ⟨_, d2, ?_, List.getElem_mem (h := show v.toNat < xs.length by omega), hs2⟩
  simp [g__law_one_of, e, g0, hx]
theorem plainAll_iff : ∀ {ds : List D}, PyData.plainAll ds = true ↔ ∀ d ∈ ds, d.plain = true
  | [] => by simp [PyData.plainAll]
  | x :: xs => by simp [PyData.plainAll, plainAll_iff (ds := xs)]
mutual
/-- ints, and tuples of such -/
def itB : D → Bool
  | .int _ => true
  | .tuple ds => decide (ds.length ≤ 1000) && itBs ds
  | .none => false
  | .bool _ => false
  | .str _ => false
  | .list _ => false
  | .dict _ => false
def itBs : List D → Bool
  | [] => true
  | d :: ds => itB d && itBs ds
end
theorem itBs_mem : ∀ {ds : List D}, itBs ds = true → ∀ d ∈ ds, itB d = true
  | [], _, _, h => nomatch h
  | x :: xs, hp, d, h => by
    rw [itBs, Bool.and_eq_true] at hp
    rcases List.mem_cons.mp h with rfl | h
    · exact hp.1
    · exact itBs_mem hp.2 d h
mutual
theorem itB_plain : ∀ {d : D}, itB d = true → d.plain = true
  | .int _, _ => by simp [PyData.plain]
  | .tuple ds, h => by
    rw [itB, Bool.and_eq_true] at h
    rw [PyData.plain]
    exact itBs_plain h.2
  | .none, h => by simp [itB] at h
  | .bool _, h => by simp [itB] at h
  | .str _, h => by simp [itB] at h
  | .list _, h => by simp [itB] at h
  | .dict _, h => by simp [itB] at h
theorem itBs_plain : ∀ {ds : List D}, itBs ds = true → PyData.plainAll ds = true
  | [], _ => by simp [PyData.plainAll]
  | x :: xs, h => by
    rw [itBs, Bool.and_eq_true] at h
    rw [PyData.plainAll, itB_plain h.1, itBs_plain h.2]; rfl
end
/-- what may be asked -/
def OutB (n : Nat) (d : D) : Prop := d.plain = true ∧ ∀ ds, d = .tuple ds → ds.length ≤ n
theorem outB_tup {n : Nat} {ds : List D} (h : ∀ d ∈ ds, d.plain = true) (hl : ds.length ≤ n) : OutB n (.tuple ds) := ⟨by rw [PyData.plain]; exact plainAll_iff.mpr h, fun es e => by cases e; exact hl⟩
theorem cut_mem {xs : List D} {lo hi : Option Int} {d : D} (h : d ∈ cutL xs lo hi) : d ∈ xs := List.mem_of_mem_drop (List.mem_of_mem_take h)
theorem cut_one {xs : List D} {x : Int} (h : 0 ≤ x) : (cutL xs (some x) (some (x + 1))).length ≤ 1 := by
  obtain ⟨n, rfl⟩ := Int.eq_ofNat_of_zero_le h
  unfold cutL
  rw [show HT.sIx xs.length 0 (some ((n : Nat) : Int)) = min n xs.length from HT.sIx_nat _ _ _, show HT.sIx xs.length xs.length (some (((n : Nat) : Int) + 1)) = min (n + 1) xs.length from HT.sIx_nat _ _ (n + 1)]
  rw [List.length_take]
  omega
abbrev Bt : DS := (sSeq (sIf (tTru (dUn (oIsi "tuple") (dVar 1))) (sSeq (sAsg 3 (dCall g__law_draw (dCons (dVar 0) (dCons (dBin oAdd (dCB bLen (dCons (dVar 1) dNil)) (dC (.int 1))) dNil))))
  (sSeq (sAsg 4 (dFrz (dLst (dCons (dBin oAdd (dSl (dVar 1) oN (oS (dVar 3))) (dSl (dVar 1) (oS (dBin oAdd (dVar 3) (dC (.int 1)))) oN)) (dCons (dBin oAdd (dBin oAdd (dSl (dVar 1) oN (oS (dVar 3))) (dSl (dVar 1) (oS (dVar 3)) (oS (dBin oAdd (dVar 3) (dC (.int 1)))))) (dSl (dVar 1) (oS (dVar 3)) oN)) (dCons (dBin oAdd (dVar 1) (dTup (dCons (dC (.int 0)) dNil))) (dCons (dTup dNil) dNil)))))))
  (sRet (dCall g__law_one_of (dCons (dVar 0) (dCons (dFrz (dBin oAdd (dVar 4) (dFrz (dLst (dCons (dBin oAdd (dSl (dVar 1) (oS (dVar 3)) oN) (dSl (dVar 1) oN (oS (dVar 3)))) (dCons (dUn oRev (dVar 1)) (dCons (dC (.str "shown")) dNil))))))) dNil)))))) sNil)
  (sSeq (sIf (tTru (dUn (oIsi "str") (dVar 1))) (sRet (dCall g__law_one_of (dCons (dVar 0) (dCons (dFrz (dLst (dCons (dC (.str "shut")) (dCons (dC (.str "kept")) (dCons (dC (.str "open")) (dCons (dC (.str "")) (dCons (dBin oAdd (dVar 1) (dC (.str "x"))) (dCons (dSl (dVar 1) (oS (dC (.int 1))) oN) (dCons (dC (.int 1)) dNil))))))))) dNil)))) sNil)
  (sRet (dCall g__law_one_of (dCons (dVar 0) (dCons (dFrz (dLst (dCons (dBin oAdd (dVar 1) (dC (.int 1))) (dCons (dBin oSub (dVar 1) (dC (.int 1))) (dCons (dUn oNeg (dVar 1)) (dCons (dC (.int 0)) (dCons (dC (.str "1")) (dCons (dTup (dCons (dVar 1) dNil)) dNil)))))))) dNil))))))
theorem tail_tup {ds : List D} {t : D} {st : D} {x y : Option SV} (hs : IsSt st) (hl : ds.length ≤ 1000) (hp : ∀ d ∈ ds, d.plain = true) :
    ∃ r st', (Bt [some (.ptr 0), some (.dat (.tuple ds)), some (.dat t), x, y] [st]).bind (fnOut 1) = some (r, [st']) ∧ IsSt st' ∧ OutB 1001 r := by
  obtain ⟨v, d2, e, g0, hv, hs2⟩ := k_draw (m := (ds.length : Int) + 1) hs (by omega) (by omega)
  obtain ⟨n, rfl⟩ := Int.eq_ofNat_of_zero_le g0
  have c1 : cutL ds none (some (n : Int)) = ds.take n := cut_to g0
  have c2 : cutL ds (some (n : Int)) none = ds.drop n := cut_from g0
  have c3 : cutL ds (some ((n : Int) + 1)) none = ds.drop (n + 1) := cut_from (x := (n : Int) + 1) (by omega)
  have c4 := cut_one (xs := ds) g0
  have c5 : ∀ d ∈ cutL ds (some (n : Int)) (some ((n : Int) + 1)), d ∈ ds := fun d h => cut_mem h
  generalize hm : cutL ds (some (n : Int)) (some ((n : Int) + 1)) = mid at c4 c5
  have hn : n ≤ ds.length := by omega
  have l1 : (ds.take n).length = n := by rw [List.length_take]; omega
  have l2 : (ds.drop n).length = ds.length - n := List.length_drop
  have l3 : (ds.drop (n + 1)).length = ds.length - (n + 1) := List.length_drop
  obtain ⟨r, st', e2, hr, hs3⟩ := one_of_spec (xs := [.tuple (ds.take n ++ ds.drop (n + 1)), .tuple (ds.take n ++ mid ++ ds.drop n), .tuple (ds ++ [.int 0]), .tuple [], .tuple (ds.drop n ++ ds.take n), .tuple ds.reverse, .str "shown"]) hs2 (by simp) (by simp)
  have pt : ∀ k, ∀ d ∈ ds.take k, d.plain = true := fun k d h => hp d (List.mem_of_mem_take h)
  have pd : ∀ k, ∀ d ∈ ds.drop k, d.plain = true := fun k d h => hp d (List.mem_of_mem_drop h)
  refine ⟨r, st', ?_, hs3, ?_⟩
  · have a1 : oAdd (.tuple (ds.take n)) (.tuple (ds.drop (n + 1))) = some (.dat (.tuple (ds.take n ++ ds.drop (n + 1)))) := oAdd_tup (by rw [lim_e]; omega)
    have a2 : oAdd (.tuple (ds.take n)) (.tuple mid) = some (.dat (.tuple (ds.take n ++ mid))) := oAdd_tup (by rw [lim_e]; omega)
    have a3 : oAdd (.tuple (ds.take n ++ mid)) (.tuple (ds.drop n)) = some (.dat (.tuple (ds.take n ++ mid ++ ds.drop n))) := oAdd_tup (by rw [List.length_append, lim_e]; omega)
    have a4 : oAdd (.tuple ds) (.tuple [.int 0]) = some (.dat (.tuple (ds ++ [.int 0]))) := oAdd_tup (by rw [lim_e]; simp; omega)
    have a5 : oAdd (.tuple (ds.drop n)) (.tuple (ds.take n)) = some (.dat (.tuple (ds.drop n ++ ds.take n))) := oAdd_tup (by rw [lim_e]; omega)
    generalize ds.take n ++ ds.drop (n + 1) = r1 at *
    generalize ds.take n ++ mid ++ ds.drop n = r2 at *
    generalize ds.take n ++ mid = r3 at *
    generalize ds.drop n ++ ds.take n = r5 at *
    generalize ds ++ [PyData.int 0] = r4 at *
    simp [oIsi, isi, e, c1, c2, c3, hm, a1, a2, a3, a4, a5, e2, lim_e]
  · have hx : ∀ d ∈ ds.take n ++ ds.drop (n + 1), d.plain = true := fun d h => (List.mem_append.mp h).elim (pt n d) (pd (n + 1) d)
    simp only [List.mem_cons, List.not_mem_nil, or_false] at hr
    rcases hr with rfl | rfl | rfl | rfl | rfl | rfl | rfl
    · exact outB_tup hx (by rw [List.length_append]; omega)
    · refine outB_tup (fun d h => ?_) (by rw [List.length_append, List.length_append]; omega)
      rcases List.mem_append.mp h with h | h
      · exact (List.mem_append.mp h).elim (pt n d) fun h => hp d (c5 d h)
      · exact pd n d h
    · refine outB_tup (fun d h => ?_) (by rw [List.length_append]; simp; omega)
      rcases List.mem_append.mp h with h | h
      · exact hp d h
      · rw [List.mem_singleton.mp h]; simp [PyData.plain]
    · exact outB_tup (fun d h => (nomatch h)) (by simp)
    · exact outB_tup (fun d h => (List.mem_append.mp h).elim (pd n d) (pt n d)) (by rw [List.length_append]; omega)
    · exact outB_tup (fun d h => hp d (List.mem_reverse.mp h)) (by rw [List.length_reverse]; omega)
    · exact ⟨by simp [PyData.plain], fun _ e => (nomatch e)⟩
theorem tail_int {i : Int} {t : D} {st : D} {x y : Option SV} (hs : IsSt st) : ∃ r st', (Bt [some (.ptr 0), some (.dat (.int i)), some (.dat t), x, y] [st]).bind (fnOut 1) = some (r, [st']) ∧ IsSt st' ∧ OutB 1001 r := by
  obtain ⟨r, st', e2, hr, hs3⟩ := one_of_spec (xs := [.int (i + 1), .int (i - 1), .int (-i), .int 0, .str "1", .tuple [.int i]]) hs (by simp) (by simp)
  refine ⟨r, st', ?_, hs3, ?_⟩
  · simp [oIsi, isi, e2, lim_e]
  · simp only [List.mem_cons, List.not_mem_nil, or_false] at hr
    rcases hr with rfl | rfl | rfl | rfl | rfl | rfl <;> first | exact outB_tup (fun d h => by rw [List.mem_singleton.mp h]; simp [PyData.plain]) (by simp) | exact ⟨by simp [PyData.plain], fun _ e => (nomatch e)⟩
theorem h_bent (gr : FnT) (ss : List SV) (M : Sto) : h__law_bent gr ss M = dFun 5
  (sSeq (sIf (tAnd_ (tTru (dUn (oIsi "tuple") (dVar 1))) (tAnd_ (tVal (dBin oGt (dCB bLen (dCons (dVar 1) dNil)) (dC (.int 0)))) (tAnd_ (tVal (dBin oLt (dVar 2) (dC (.int 30)))) (tVal (dBin oGt (dCall g__law_draw (dCons (dVar 0) (dCons (dC (.int 7)) dNil))) (dC (.int 0))))))) (sSeq (sAsg 3 (dCall g__law_draw (dCons (dVar 0) (dCons (dCB bLen (dCons (dVar 1) dNil)) dNil))))
  (sRet (dBin oAdd (dBin oAdd (dSl (dVar 1) oN (oS (dVar 3))) (dTup (dCons (dCall gr (dCons (dVar 0) (dCons (dBin oIx (dVar 1) (dVar 3)) (dCons (dBin oAdd (dVar 2) (dC (.int 1))) dNil)))) dNil))) (dSl (dVar 1) (oS (dBin oAdd (dVar 3) (dC (.int 1)))) oN)))) sNil)
  Bt) ss M := rfl
theorem bent_int (gr : FnT) {i t : Int} {st : D} (hs : IsSt st) : ∃ r st', h__law_bent gr [.ptr 0, .dat (.int i), .dat (.int t)] [st] = some (r, [st']) ∧ IsSt st' ∧ OutB 1001 r := by
  obtain ⟨r, st', e, h⟩ := tail_int (i := i) (t := .int t) (x := none) (y := none) hs
  refine ⟨r, st', ?_, h⟩
  rw [h_bent]
  generalize Bt = BT at e ⊢
  simp [oIsi, isi]
  exact e
theorem bent_spec : ∀ (n : Nat) {d st : D}, n ≤ 30 → itB d = true → IsSt st → ∃ r st', r__law_bent (n + 1) [.ptr 0, .dat d, .dat (.int (30 - (n : Nat)))] [st] = some (r, [st']) ∧ IsSt st' ∧ OutB 1001 r := by
  intro n
  induction n with
  | zero =>
    intro d st _ hd hs
    unfold r__law_bent
    cases d with
    | int i => exact bent_int _ hs
    | tuple ds =>
      rw [itB, Bool.and_eq_true, decide_eq_true_iff] at hd
      obtain ⟨r, st', e, h⟩ := tail_tup (ds := ds) (t := .int 30) (x := none) (y := none) hs hd.1 (plainAll_iff.mp (itBs_plain hd.2))
      refine ⟨r, st', ?_, h⟩
      rw [h_bent]
      generalize Bt = BT at e ⊢
      by_cases h0 : 0 < ds.length
      · simp [oIsi, isi, h0]
        exact e
      · simp [oIsi, isi, h0]
        exact e
    | _ => simp [itB] at hd
  | succ n ih =>
    intro d st hn hd hs
    unfold r__law_bent
    cases d with
    | int i => exact bent_int _ hs
    | tuple ds =>
      rw [itB, Bool.and_eq_true, decide_eq_true_iff] at hd
      have hp := plainAll_iff.mp (itBs_plain hd.2)
      by_cases h0 : 0 < ds.length
      · obtain ⟨w, d2, e1, g0, hw, hs2⟩ := k_draw (m := 7) hs (by decide) (by decide)
        have ht : (30 - ((n + 1 : Nat) : Int)) < 30 := by omega
        by_cases hw0 : 0 < w
        · obtain ⟨v, d3, e2, k0, hv, hs3⟩ := k_draw (m := ds.length) hs2 (by omega) (by omega)
          obtain ⟨k, rfl⟩ := Int.eq_ofNat_of_zero_le k0
          have hk : k < ds.length := by omega
          have hx : ds[k]? = some ds[k] := List.getElem?_eq_getElem hk
          obtain ⟨r, st', e3, hs4, hr⟩ := ih (d := ds[k]) (st := d3) (by omega) (itBs_mem hd.2 _ (List.getElem_mem hk)) hs3
          have c1 : cutL ds none (some (k : Int)) = ds.take k := cut_to k0
          have c3 : cutL ds (some ((k : Int) + 1)) none = ds.drop (k + 1) := cut_from (x := (k : Int) + 1) (by omega)
          have hti : (30 - ((n + 1 : Nat) : Int)) + 1 = 30 - (n : Int) := by omega
          have l1 : (ds.take k).length = k := by rw [List.length_take]; omega
          have l3 : (ds.drop (k + 1)).length = ds.length - (k + 1) := List.length_drop
          refine ⟨.tuple (ds.take k ++ [r] ++ ds.drop (k + 1)), st', ?_, hs4, outB_tup (fun d h => ?_) (by simp only [List.length_append, l1, l3, List.length_singleton]; omega)⟩
          · rw [h_bent]
            generalize Bt = BT
            have a1 : oAdd (.tuple (ds.take k)) (.tuple [r]) = some (.dat (.tuple (ds.take k ++ [r]))) := oAdd_tup (by rw [l1, lim_e]; simp; omega)
            have a2 : oAdd (.tuple (ds.take k ++ [r])) (.tuple (ds.drop (k + 1))) = some (.dat (.tuple (ds.take k ++ [r] ++ ds.drop (k + 1)))) := oAdd_tup (by rw [List.length_append, l1, l3, lim_e]; simp; omega)
            have hix : oIx (.tuple ds) (.int (k : Int)) = some (.dat ds[k]) := by
              show (atI ds (k : Int)).map OR.dat = _
              rw [DL.atI_nat hx]; rfl
            generalize ds.take k ++ [r] ++ ds.drop (k + 1) = res at *
            generalize ds.take k ++ [r] = res1 at *
            generalize (30 - ((n + 1 : Nat) : Int)) = tt at *
            generalize ds[k] = z at *
            simp [oIsi, isi, h0, ht, e1, hw0, e2, c1, c3, hix, hti, e3, a1, a2, lim_e, -oIx_tup]
          · rcases List.mem_append.mp h with h | h
            · rcases List.mem_append.mp h with h | h
              · exact hp d (List.mem_of_mem_take h)
              · rw [List.mem_singleton.mp h]; exact hr.1
            · exact hp d (List.mem_of_mem_drop h)
        · obtain ⟨r, st', e, h⟩ := tail_tup (ds := ds) (t := .int (30 - ((n + 1 : Nat) : Int))) (x := none) (y := none) hs2 hd.1 hp
          refine ⟨r, st', ?_, h⟩
          rw [h_bent]
          generalize Bt = BT at e ⊢
          generalize (30 - ((n + 1 : Nat) : Int)) = tt at *
          simp [oIsi, isi, h0, ht, e1, hw0]
          exact e
      · obtain ⟨r, st', e, h⟩ := tail_tup (ds := ds) (t := .int (30 - ((n + 1 : Nat) : Int))) (x := none) (y := none) hs hd.1 hp
        refine ⟨r, st', ?_, h⟩
        rw [h_bent]
        generalize Bt = BT at e ⊢
        generalize (30 - ((n + 1 : Nat) : Int)) = tt at *
        simp [oIsi, isi, h0]
        exact e
    | _ => simp [itB] at hd
end K00
namespace K00
open PySem PySem.Spec PyProof.Rows L2 DL
def s1 : DS := (sAsg 2 (dBin oAdd (dC (.int 1)) (dCall g__law_draw (dCons (dVar 1) (dCons (dC (.int 6)) dNil)))))
def s2 : DS := (sAsg 3 (dBin oAdd (dC (.int 1)) (dCall g__law_draw (dCons (dVar 1) (dCons (dC (.int 6)) dNil)))))
def s3 : DS := (sAsg 4 (dCall g__law_some_tie (dCons (dVar 1) (dCons (dVar 2) (dCons (dVar 3) dNil)))))
def s4 : DS := (sIf (tVal (dBin oIsNot (dCall g_is_tie (dCons (dVar 4) (dCons (dVar 2) (dCons (dVar 3) dNil)))) (dC (.bool true)))) (sRet (dC (.bool false))) sNil)
def s5 : DS := (sAsg 5 (dLst (dCons (dTup dNil) (dCons (dC (.int 7)) (dCons (dC (.str "tie")) (dCons (dSl (dVar 4) (oS (dC (.int 1))) oN) (dCons (dBin oAdd (dVar 4) (dSl (dVar 4) oN (oS (dC (.int 1))))) (dCons (dUn oRev (dVar 4)) (dCons (dTup (dCons (dVar 4) dNil)) (dCons (dBin oAdd (dVar 4) (dTup (dCons (dTup (dCons (dVar 2) (dCons (dC (.int 0)) (dCons (dC (.int 1)) dNil)))) dNil))) (dCons (dBin oAdd (dVar 4) (dTup (dCons (dTup (dCons (dC (.int 0)) (dCons (dVar 3) (dCons (dC (.int 1)) dNil)))) dNil))) dNil)))))))))))
def s6 : DS := (sAsg 5 (dBin oAdd (dVar 5) (dFrz (dLst (dCons (dCB bTuple (dCons (dFrz (dComp (iSeq (dVar 4)) (gNm 9) [9] tYes_ (dBin oAdd (dSl (dVar 9) oN (oS (dC (.int 2)))) (dTup (dCons (dBin oMul (dC (.int 3)) (dBin oIx (dVar 9) (dC (.int 2)))) dNil))))) dNil)) (dCons (dCB bTuple (dCons (dFrz (dComp (iSeq (dVar 4)) (gNm 9) [9] tYes_ (dSl (dVar 9) oN (oS (dC (.int 2)))))) dNil)) dNil))))))
def s7 : DS := (sExpr (dMethW "list" wAppend (dVar 5) (dCons (dCB bTuple (dCons (dFrz (dComp (iSeq (dVar 4)) (gNm 9) [9] tYes_ (dTup (dCons (dBin oIx (dVar 9) (dC (.int 1))) (dCons (dBin oIx (dVar 9) (dC (.int 0))) (dCons (dBin oIx (dVar 9) (dC (.int 2))) dNil)))))) dNil)) dNil)))
def s8 : DS := (sFor (iRng (dCons (dC (.int 10)) dNil)) (gNm 6) (sExpr (dMethW "list" wAppend (dVar 5) (dCons (dCall g__law_bent (dCons (dVar 1) (dCons (dVar 4) (dCons (dC (.int 0)) dNil)))) dNil))))
def s9 : DS := (sFor (iSeq (dVar 5)) (gNm 7) (sIf (tNot_ (tTru (dCall g__law_says (dCons (dCall g_is_tie (dCons (dVar 7) (dCons (dVar 2) (dCons (dVar 3) dNil)))) (dCons (dCall g__law_is_tie (dCons (dVar 7) (dCons (dVar 2) (dCons (dVar 3) dNil)))) dNil))))) (sRet (dC (.bool false))) sNil))
def s10 : DS := (sAsg 8 (dBin oAdd (dC (.int 1)) (dCall g__law_draw (dCons (dVar 1) (dCons (dC (.int 6)) dNil)))))
def s11 : DS := (sRet (dCall g__law_says (dCons (dCall g_is_tie (dCons (dVar 4) (dCons (dVar 2) (dCons (dVar 8) dNil)))) (dCons (dCall g__law_is_tie (dCons (dVar 4) (dCons (dVar 2) (dCons (dVar 8) dNil)))) dNil))))
theorem b_law_eq : b_law = (sSeq s1 (sSeq s2 (sSeq s3 (sSeq s4 (sSeq s5 (sSeq s6 (sSeq s7 (sSeq s8 (sSeq s9 (sSeq s10 s11)))))))))) := rfl
theorem says_spec (a b : Bool) : g__law_says [.dat (.bool a), .dat (.bool b)] [] = some (.bool (a == b), []) := by
  cases a <;> cases b <;> simp [g__law_says]
theorem rows_plain (rs : List Row) : ∀ d ∈ rs.map rowD, d.plain = true := fun d h => by
  obtain ⟨t, _, rfl⟩ := List.mem_map.mp h
  simp [rowD, PyData.plain, PyData.plainAll]
theorem rows_itB {rs : List Row} (h : rs.length ≤ 200) : itB (.tuple (rs.map rowD)) = true := by
  have : ∀ rs : List Row, itBs (rs.map rowD) = true := fun rs => by
    induction rs with
    | nil => rfl
    | cons t r ih => rw [List.map_cons, itBs, ih]; simp [rowD, itB, itBs]
  rw [itB, this, decide_eq_true (by rw [List.length_map]; omega)]; rfl
theorem tie_true {m o : Nat} {rs : List Row} (t : Tie m o rs) : tieB m o (.tuple (rs.map rowD)) = true := by
  show (!(rs.map rowD).isEmpty && ((rs.map rowD).all (rowOk m o) && (asc ((rs.map rowD).map unrow) && (evenB (sums 0 ((rs.map rowD).map unrow) m) && evenB (sums 1 ((rs.map rowD).map unrow) o))))) = true
  rw [unrow_rows, t.asc, t.e0, t.e1]
  have h1 : (rs.map rowD).all (rowOk m o) = true := List.all_eq_true.mpr fun d hd => by
    obtain ⟨r, hr, rfl⟩ := List.mem_map.mp hd
    exact rowOk_rowD (t.rng r hr)
  have h2 : (rs.map rowD).isEmpty = false := by
    cases rs with
    | nil => exact absurd rfl t.ne
    | cons _ _ => rfl
  rw [h1, h2]; rfl
theorem both {d : D} {m o : Nat} (h : OutB 5000 d) (hm0 : 0 < m) (hm : m ≤ 6) (ho0 : 0 < o) (ho : o ≤ 6) : g_is_tie [.dat d, .dat (.int m), .dat (.int o)] [] = some (.bool (tieB m o d), []) ∧ g__law_is_tie [.dat d, .dat (.int m), .dat (.int o)] [] = some (.bool (tieB m o d), []) :=
  ⟨is_tie_spec h.1 (fun ds e => by have := h.2 ds e; rw [lim_e]; omega) hm0 (by omega) ho0 (by omega), law_is_tie_spec h.1 h.2 hm0 (by omega) ho0 (by omega)⟩
theorem st1 {d : D} (hs : IsSt d) : ∃ (m : Nat) (d' : D), s1 [none, some (.ptr 0), none, none, none, none, none, none, none, none] [d] = some (.nx, [none, some (.ptr 0), some (.dat (.int m)), none, none, none, none, none, none, none], [d']) ∧ IsSt d' ∧ 0 < m ∧ m ≤ 6 := by
  obtain ⟨v, d', e, g0, hv, hs'⟩ := k_draw (m := 6) hs (by decide) (by decide)
  obtain ⟨m, hm⟩ := Int.eq_ofNat_of_zero_le (show 0 ≤ 1 + v by omega)
  exact ⟨m, d', by simp [s1, e, hm], hs', by omega, by omega⟩
theorem st2 {d : D} {m : Nat} (hs : IsSt d) : ∃ (o : Nat) (d' : D), s2 [none, some (.ptr 0), some (.dat (.int m)), none, none, none, none, none, none, none] [d] = some (.nx, [none, some (.ptr 0), some (.dat (.int m)), some (.dat (.int o)), none, none, none, none, none, none], [d']) ∧ IsSt d' ∧ 0 < o ∧ o ≤ 6 := by
  obtain ⟨v, d', e, g0, hv, hs'⟩ := k_draw (m := 6) hs (by decide) (by decide)
  obtain ⟨m, hm⟩ := Int.eq_ofNat_of_zero_le (show 0 ≤ 1 + v by omega)
  exact ⟨m, d', by simp [s2, e, hm], hs', by omega, by omega⟩
theorem st3 {d : D} {m o : Nat} (hs : IsSt d) (hm0 : 0 < m) (hm : m ≤ 6) (ho0 : 0 < o) (ho : o ≤ 6) : ∃ (rs : List Row) (d' : D), s3 [none, some (.ptr 0), some (.dat (.int m)), some (.dat (.int o)), none, none, none, none, none, none] [d] = some (.nx, [none, some (.ptr 0), some (.dat (.int m)), some (.dat (.int o)), some (.dat (.tuple (rs.map rowD))), none, none, none, none, none], [d']) ∧ IsSt d' ∧ Tie m o rs := by
  obtain ⟨rs, d', e, hs', ht⟩ := some_tie_spec hs hm0 hm ho0 ho
  refine ⟨rs, d', ?_, hs', ht⟩
  generalize rs.map rowD = R at e ⊢
  simp [s3, e]
theorem st4 {d : D} {m o : Nat} {rs : List Row} (t : Tie m o rs) (hm0 : 0 < m) (hm : m ≤ 6) (ho0 : 0 < o) (ho : o ≤ 6) : s4 [none, some (.ptr 0), some (.dat (.int m)), some (.dat (.int o)), some (.dat (.tuple (rs.map rowD))), none, none, none, none, none] [d] = some (.nx, [none, some (.ptr 0), some (.dat (.int m)), some (.dat (.int o)), some (.dat (.tuple (rs.map rowD))), none, none, none, none, none], [d]) := by
  have e := (both (d := .tuple (rs.map rowD)) (outB_tup (rows_plain rs) (by rw [List.length_map]; have := t.len; omega)) hm0 hm ho0 ho).1
  rw [tie_true t] at e
  generalize rs.map rowD = R at e ⊢
  simp [s4, e]
def Okd (ds : List D) : Prop := (∀ x ∈ ds, OutB 5000 x) ∧ ds.length ≤ 100
theorem plain_c (ds : List D) (h : ∀ d ∈ ds, d.plain = true) (hl : ds.length ≤ 5000) : OutB 5000 (.tuple ds) := outB_tup h hl
theorem plain_a {d : D} (h : d.plain = true) (ht : ∀ ds, d ≠ .tuple ds) : OutB 5000 d := ⟨h, fun ds e => absurd e (ht ds)⟩
abbrev G5 (m o : Nat) (R : List D) (p : Option SV) : Ga := [none, some (.ptr 0), some (.dat (.int m)), some (.dat (.int o)), some (.dat (.tuple R)), p, none, none, none, none]
theorem st5 {d : D} {m o : Nat} {R : List D} (hp : ∀ d ∈ R, d.plain = true) (hl : R.length ≤ 200) : ∃ ds, s5 (G5 m o R none) [d] = some (.nx, G5 m o R (some (.ptr 1)), [d, .list ds]) ∧ Okd ds := by
  have c1 : cutL R (some 1) none = R.drop 1 := cut_from (by decide)
  have c2 : cutL R none (some 1) = R.take 1 := cut_to (by decide)
  have l2 : (R.take 1).length ≤ 1 := by rw [List.length_take]; omega
  have a1 : oAdd (.tuple R) (.tuple (R.take 1)) = some (.dat (.tuple (R ++ R.take 1))) := oAdd_tup (by rw [lim_e]; omega)
  have a2 : ∀ x : D, oAdd (.tuple R) (.tuple [x]) = some (.dat (.tuple (R ++ [x]))) := fun x => oAdd_tup (by rw [lim_e]; simp; omega)
  refine ⟨[.tuple [], .int 7, .str "tie", .tuple (R.drop 1), .tuple (R ++ R.take 1), .tuple R.reverse, .tuple [.tuple R], .tuple (R ++ [.tuple [.int m, .int 0, .int 1]]), .tuple (R ++ [.tuple [.int 0, .int o, .int 1]])], ?_, ?_, by simp⟩
  · have hrev : oRev (.tuple R) = some (.dat (.tuple R.reverse)) := rfl
    generalize R ++ R.take 1 = r1 at *
    simp [s5, c1, c2, a1, a2, lim_e]
  · intro x hx
    simp only [List.mem_cons, List.not_mem_nil, or_false] at hx
    have p3 : ∀ a b c : Int, PyData.plain (.tuple [.int a, .int b, .int c]) = true := fun a b c => by simp [PyData.plain, PyData.plainAll]
    rcases hx with rfl | rfl | rfl | rfl | rfl | rfl | rfl | rfl | rfl
    · exact plain_c _ (fun _ h => (nomatch h)) (by simp)
    · exact plain_a (by simp [PyData.plain]) fun _ h => nomatch h
    · exact plain_a (by simp [PyData.plain]) fun _ h => nomatch h
    · exact plain_c _ (fun d h => hp d (List.mem_of_mem_drop h)) (by rw [List.length_drop]; omega)
    · exact plain_c _ (fun d h => (List.mem_append.mp h).elim (hp d) fun h => hp d (List.mem_of_mem_take h)) (by rw [List.length_append]; omega)
    · exact plain_c _ (fun d h => hp d (List.mem_reverse.mp h)) (by rw [List.length_reverse]; omega)
    · refine plain_c _ (fun d h => ?_) (by simp)
      rw [List.mem_singleton.mp h, PyData.plain]
      exact plainAll_iff.mpr hp
    · refine plain_c _ (fun d h => (List.mem_append.mp h).elim (hp d) fun h => ?_) (by rw [List.length_append]; simp; omega)
      rw [List.mem_singleton.mp h]
      exact p3 _ _ _
    · refine plain_c _ (fun d h => (List.mem_append.mp h).elim (hp d) fun h => ?_) (by rw [List.length_append]; simp; omega)
      rw [List.mem_singleton.mp h]
      exact p3 _ _ _
theorem comp_rows {te : DE} {m o : Nat} {rs : List Row} {p : Option SV} {M : Sto} (h : Row → D) (hl : rs.length ≤ 200)
    (he : ∀ (t : Row) (acc : List D), te ((wipeG (G5 m o (rs.map rowD) p) [9]).set 9 (some (.dat (rowD t)))) (M ++ [.list acc]) = some (.dat (h t), M ++ [.list acc])) :
    dComp (iSeq (dVar 4)) (gNm 9) [9] tYes_ te (G5 m o (rs.map rowD) p) M = some (.ptr M.length, M ++ [.list (rs.map h)]) := by
  have := dComp_all (fi := iSeq (dVar 4)) (tg := gNm 9) (own := [9]) (te := te) (Γ := G5 m o (rs.map rowD) p) (M0 := M) (M := M) (ds := rs.map rowD) (fun d => h (unrow d)) (by simp) (by rw [List.length_map, lim_e]; omega) fun d hd acc => by
    obtain ⟨t, _, rfl⟩ := List.mem_map.mp hd
    exact ⟨_, rfl, he t acc⟩
  rw [this, List.map_map]
  rfl
theorem st6 {d : D} {m o : Nat} {rs : List Row} {ds : List D} (hl : rs.length ≤ 200) (hd : Okd ds) : ∃ ds', s6 (G5 m o (rs.map rowD) (some (.ptr 1))) [d, .list ds] = some (.nx, G5 m o (rs.map rowD) (some (.ptr 2)), [d, .list ds, .list ds']) ∧ (∀ x ∈ ds', OutB 5000 x) ∧ ds'.length ≤ 102 := by
  have e1 := comp_rows (te := (dBin oAdd (dSl (dVar 9) oN (oS (dC (.int 2)))) (dTup (dCons (dBin oMul (dC (.int 3)) (dBin oIx (dVar 9) (dC (.int 2)))) dNil)))) (m := m) (o := o) (p := some (.ptr 1)) (M := [d, .list ds]) (fun t => .tuple [.int t.1, .int t.2.1, .int (3 * t.2.2)]) hl fun t acc => by
    have c : cutL [PyData.int t.1, .int t.2.1, .int t.2.2] none (some 2) = [.int t.1, .int t.2.1] := cut_to (by decide)
    have hm : oMul (.int 3) (.int t.2.2) = some (.dat (.int (3 * t.2.2))) := oMul_i (by unfold okMul; simp)
    simp [rowD, c, hm, lim_e]
  have e2 := comp_rows (te := (dSl (dVar 9) oN (oS (dC (.int 2))))) (m := m) (o := o) (p := some (.ptr 1)) (M := [d, .list ds]) (fun t => .tuple [.int t.1, .int t.2.1]) hl fun t acc => by
    have c : cutL [PyData.int t.1, .int t.2.1, .int t.2.2] none (some 2) = [.int t.1, .int t.2.1] := cut_to (by decide)
    simp [rowD, c]
  have ha : ∀ a b : D, oAdd (.list ds) (.list [a, b]) = some (.new (.list (ds ++ [a, b]))) := fun a b => oAdd_lst (by have := hd.2; rw [lim_e]; simp; omega)
  refine ⟨ds ++ [.tuple (rs.map fun t => .tuple [.int t.1, .int t.2.1, .int (3 * t.2.2)]), .tuple (rs.map fun t => .tuple [.int t.1, .int t.2.1])], ?_, fun x hx => ?_, by have := hd.2; rw [List.length_append]; simp; omega⟩
  · generalize (rs.map fun t : Row => PyData.tuple [.int t.1, .int t.2.1, .int (3 * t.2.2)]) = q1 at *
    generalize (rs.map fun t : Row => PyData.tuple [.int t.1, .int t.2.1]) = q2 at *
    generalize rs.map rowD = R at *
    simp at e1 e2
    simp [s6, e1, e2, ha, lim_e]
  · rcases List.mem_append.mp hx with hx | hx
    · exact hd.1 x hx
    · simp only [List.mem_cons, List.not_mem_nil, or_false] at hx
      rcases hx with rfl | rfl
      · refine plain_c _ (fun d h => ?_) (by rw [List.length_map]; omega)
        obtain ⟨t, _, rfl⟩ := List.mem_map.mp h
        simp [PyData.plain, PyData.plainAll]
      · refine plain_c _ (fun d h => ?_) (by rw [List.length_map]; omega)
        obtain ⟨t, _, rfl⟩ := List.mem_map.mp h
        simp [PyData.plain, PyData.plainAll]
theorem st7 {d y : D} {m o : Nat} {rs : List Row} {ds : List D} (hl : rs.length ≤ 200) (hd : (∀ x ∈ ds, OutB 5000 x) ∧ ds.length ≤ 102) : ∃ ds', s7 (G5 m o (rs.map rowD) (some (.ptr 2))) [d, y, .list ds] = some (.nx, G5 m o (rs.map rowD) (some (.ptr 2)), [d, y, .list ds']) ∧ (∀ x ∈ ds', OutB 5000 x) ∧ ds'.length ≤ 103 := by
  have e1 := comp_rows (te := (dTup (dCons (dBin oIx (dVar 9) (dC (.int 1))) (dCons (dBin oIx (dVar 9) (dC (.int 0))) (dCons (dBin oIx (dVar 9) (dC (.int 2))) dNil))))) (m := m) (o := o) (p := some (.ptr 2)) (M := [d, y, .list ds]) (fun t => .tuple [.int t.2.1, .int t.1, .int t.2.2]) hl fun t acc => by
    simp [rowD, lim_e]
  refine ⟨ds ++ [.tuple (rs.map fun t => .tuple [.int t.2.1, .int t.1, .int t.2.2])], ?_, fun x hx => ?_, by have := hd.2; rw [List.length_append]; simp; omega⟩
  · generalize (rs.map fun t : Row => PyData.tuple [.int t.2.1, .int t.1, .int t.2.2]) = q1 at *
    generalize rs.map rowD = R at *
    have hl2 : ds.length < LIM := by rw [lim_e]; omega
    simp at e1
    simp [s7, e1, hl2]
  · rcases List.mem_append.mp hx with hx | hx
    · exact hd.1 x hx
    · rw [List.mem_singleton.mp hx]
      refine plain_c _ (fun d h => ?_) (by rw [List.length_map]; omega)
      obtain ⟨t, _, rfl⟩ := List.mem_map.mp h
      simp [PyData.plain, PyData.plainAll]
abbrev G6 (m o : Nat) (R : List D) (x y z : Option SV) : Ga := [none, some (.ptr 0), some (.dat (.int m)), some (.dat (.int o)), some (.dat (.tuple R)), some (.ptr 2), x, y, z, none]
theorem st8 {d y : D} {m o : Nat} {rs : List Row} {ds : List D} (hs : IsSt d) (hl : rs.length ≤ 200) (hd : (∀ x ∈ ds, OutB 5000 x) ∧ ds.length ≤ 103) : ∃ x6 d' ds', s8 (G5 m o (rs.map rowD) (some (.ptr 2))) [d, y, .list ds] = some (.nx, G6 m o (rs.map rowD) x6 none none, [d', y, .list ds']) ∧ IsSt d' ∧ (∀ x ∈ ds', OutB 5000 x) ∧ ds'.length ≤ 113 := by
  obtain ⟨Γ', M', e, ⟨x6, hΓ⟩, d', ds', hM, hs', h1, h2⟩ := sFor_all (fi := iRng (dCons (dC (.int 10)) dNil)) (tg := gNm 6) (body := sExpr (dMethW "list" wAppend (dVar 5) (dCons (dCall g__law_bent (dCons (dVar 1) (dCons (dVar 4) (dCons (dC (.int 0)) dNil)))) dNil))) (Γ := G5 m o (rs.map rowD) (some (.ptr 2))) (M := [d, y, .list ds]) (M1 := [d, y, .list ds]) (ds := rngD 0 10)
    (by simp; rw [rgw_1 (by omega) (by omega)]; simp [itR_rng])
    (fun i Γ M => (∃ x6, Γ = G6 m o (rs.map rowD) x6 none none) ∧ ∃ d' ds', M = [d', y, .list ds'] ∧ IsSt d' ∧ (∀ x ∈ ds', OutB 5000 x) ∧ ds'.length ≤ 103 + i)
    ⟨⟨none, rfl⟩, d, ds, rfl, hs, hd.1, hd.2⟩ fun i z Γ M hz ⟨⟨x6, hΓ⟩, d', ds', hM, hs', h1, h2⟩ => by
      subst hΓ hM
      have hi : i < 10 := by
        have := (List.getElem?_eq_some_iff.mp hz).1
        simpa using this
      obtain ⟨r, st', e, hs2, hr⟩ := bent_spec 30 (d := .tuple (rs.map rowD)) (st := d') (by omega) (rows_itB hl) hs'
      have e : g__law_bent [.ptr 0, .dat (.tuple (rs.map rowD)), .dat (.int 0)] [d'] = some (r, [st']) := e
      refine ⟨_, G6 m o (rs.map rowD) (some (.dat z)) none none, _, rfl, ?_, ⟨_, rfl⟩, st', ds' ++ [r], rfl, hs2, fun x hx => ?_, by rw [List.length_append]; simp; omega⟩
      · generalize rs.map rowD = R at *
        generalize g__law_bent = gb at *
        have hl2 : ds'.length < LIM := by rw [lim_e]; omega
        simp [e, hl2]
      · rcases List.mem_append.mp hx with hx | hx
        · exact h1 x hx
        · rw [List.mem_singleton.mp hx]
          exact ⟨hr.1, fun ds e => by have := hr.2 ds e; omega⟩
  exact ⟨x6, d', ds', by rw [← hΓ, ← hM]; exact e, hs', h1, by simpa using h2⟩
theorem st9 {d y : D} {m o : Nat} {R : List D} {ds : List D} {x6 : Option SV} (hm0 : 0 < m) (hm : m ≤ 6) (ho0 : 0 < o) (ho : o ≤ 6) (hd : ∀ x ∈ ds, OutB 5000 x) : ∃ x7, s9 (G6 m o R x6 none none) [d, y, .list ds] = some (.nx, G6 m o R x6 x7 none, [d, y, .list ds]) := by
  obtain ⟨r, e, h⟩ := sFor_indP (fi := iSeq (dVar 5)) (it := itP 2) (tg := gNm 7) (body := (sIf (tNot_ (tTru (dCall g__law_says (dCons (dCall g_is_tie (dCons (dVar 7) (dCons (dVar 2) (dCons (dVar 3) dNil)))) (dCons (dCall g__law_is_tie (dCons (dVar 7) (dCons (dVar 2) (dCons (dVar 3) dNil)))) dNil))))) (sRet (dC (.bool false))) sNil))
    (Γ := G6 m o R x6 none none) (M := [d, y, .list ds]) (M1 := [d, y, .list ds]) (ds := ds) (by simp [sqw_ptr])
    (fun i Γ M => (∃ x7, Γ = G6 m o R x6 x7 none) ∧ M = [d, y, .list ds]) (fun _ => False) (fun i Γ M ⟨_, hM⟩ => by subst hM; exact itP_at rfl) ⟨⟨none, rfl⟩, rfl⟩ fun i z Γ M hz ⟨⟨x7, hΓ⟩, hM⟩ => by
      subst hΓ hM
      obtain ⟨b1, b2⟩ := both (hd z (List.mem_of_getElem? hz)) hm0 hm ho0 ho
      have b3 := says_spec (tieB m o z) (tieB m o z)
      generalize tieB m o z = b at b1 b2 b3
      refine ⟨_, (.nx, G6 m o R x6 (some (.dat z)) none, [d, y, .list ds]), rfl, ?_, ⟨⟨_, rfl⟩, rfl⟩⟩
      simp [b1, b2, b3]
  rcases h with h | ⟨Γ', M', rfl, ⟨x7, rfl⟩, rfl⟩
  · exact h.elim
  · exact ⟨x7, e⟩
theorem st10 {d y z : D} {m o : Nat} {R : List D} {x6 x7 : Option SV} (hs : IsSt d) : ∃ (q : Nat) (d' : D), s10 (G6 m o R x6 x7 none) [d, y, z] = some (.nx, G6 m o R x6 x7 (some (.dat (.int q))), [d', y, z]) ∧ 0 < q ∧ q ≤ 6 := by
  obtain ⟨v, d', e, g0, hv, hs'⟩ := k_draw (m := 6) hs (by decide) (by decide)
  obtain ⟨q, hq⟩ := Int.eq_ofNat_of_zero_le (show 0 ≤ 1 + v by omega)
  exact ⟨q, d', by simp [s10, e, hq], by omega, by omega⟩
theorem st11 {d y z : D} {m o q : Nat} {R : List D} {x6 x7 : Option SV} (hR : OutB 5000 (.tuple R)) (hm0 : 0 < m) (hm : m ≤ 6) (hq0 : 0 < q) (hq : q ≤ 6) : s11 (G6 m o R x6 x7 (some (.dat (.int q)))) [d, y, z] = some (.rt (.dat (.bool true)), G6 m o R x6 x7 (some (.dat (.int q))), [d, y, z]) := by
  obtain ⟨b1, b2⟩ := both hR hm0 hm hq0 hq
  have b3 := says_spec (tieB m q (.tuple R)) (tieB m q (.tuple R))
  generalize tieB m q (.tuple R) = b at b1 b2 b3
  simp [s11, b1, b2, b3]
theorem law_true (ns : List Int) : ∃ Γ' M', b_law (none :: some (.ptr 0) :: List.replicate (10 - 2) none) [state0 ns] = some (.rt (.dat (.bool true)), Γ', M') := by
  obtain ⟨m, d1, e1, h1, hm0, hm⟩ := st1 (isSt0 ns)
  obtain ⟨o, d2, e2, h2, ho0, ho⟩ := st2 (m := m) h1
  obtain ⟨rs, d3, e3, h3, ht⟩ := st3 h2 hm0 hm ho0 ho
  have e4 := st4 (d := d3) ht hm0 hm ho0 ho
  obtain ⟨ds5, e5, h5⟩ := st5 (d := d3) (m := m) (o := o) (R := rs.map rowD) (rows_plain rs) (by rw [List.length_map]; exact ht.len)
  obtain ⟨ds6, e6, h6⟩ := st6 (d := d3) (m := m) (o := o) ht.len h5
  obtain ⟨ds7, e7, h7⟩ := st7 (d := d3) (y := .list ds5) (m := m) (o := o) ht.len h6
  obtain ⟨x6, d8, ds8, e8, h8, h8', _⟩ := st8 (y := .list ds5) (m := m) (o := o) h3 ht.len h7
  obtain ⟨x7, e9⟩ := st9 (d := d8) (y := .list ds5) (R := rs.map rowD) (x6 := x6) hm0 hm ho0 ho h8'
  obtain ⟨q, d10, e10, hq0, hq⟩ := st10 (y := .list ds5) (z := .list ds8) (m := m) (o := o) (R := rs.map rowD) (x6 := x6) (x7 := x7) h8
  have e11 := st11 (d := d10) (y := .list ds5) (z := .list ds8) (o := o) (R := rs.map rowD) (x6 := x6) (x7 := x7) (plain_c _ (rows_plain rs) (by rw [List.length_map]; have := ht.len; omega)) hm0 hm hq0 hq
  refine ⟨G6 m o (rs.map rowD) x6 x7 (some (.dat (.int q))), [d10, .list ds5, .list ds8], ?_⟩
  rw [b_law_eq]
  show sSeq s1 _ [none, some (.ptr 0), none, none, none, none, none, none, none, none] _ = _
  rw [sSeq_e, e1, Option.bind_some, sqk_nx, sSeq_e, e2, Option.bind_some, sqk_nx, sSeq_e, e3, Option.bind_some, sqk_nx, sSeq_e, e4, Option.bind_some, sqk_nx, sSeq_e, e5, Option.bind_some, sqk_nx, sSeq_e, e6, Option.bind_some, sqk_nx, sSeq_e, e7, Option.bind_some, sqk_nx, sSeq_e, e8, Option.bind_some, sqk_nx, sSeq_e, e9, Option.bind_some, sqk_nx, sSeq_e, e10, Option.bind_some, sqk_nx]
  exact e11
end K00

theorem PySem.Challenge.cw_drawnalike_k00_is_tie_holds : PySem.Challenge.rw_drawnalike_k00_is_tie.Holds := by
  exact K00.holds_of fun ns hl => K00.law_true ns
