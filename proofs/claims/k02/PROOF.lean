import PyProof.Rows.All
import Wide.All
import OpenK.AllK
import Wide.FinOn
import HandS.ForMost
import HandS.ForExc
import HandS.IsInst
import HandS.TupAny
import HandS.Conv
import HandS.Style
import HandS.Flow
import HandS.More
import HandS.Zip
import HandS.TupLen
import HandS.TupSets
import HandS.Strs
import HandS.SortRule
import KE.SortCalls
import KE.KDictSum
import HandS.Defaults
import KE.KDictKeyed
import KE.SortData
import KE.DataCmp
import KE.DataEq
import KE.DataAny
import KE.DataMinMax
import KE.DataIsa
import HandS.Wide
import HandS.StrMore
import HandS.Gcd
import HandS.HeadHook4
import HandS.Head2
import HandS.HeadEnd
import HandS.Small
import HandS.ExcIs
import KE.GoesMore
import HandS.RaiseMore
import HandS.DictComp
import HandS.SetBool
import HandS.SetFor
import PySem.Challenge.RW_drawnalike_k02_whole_flows_and_bars
set_option Elab.async false
set_option linter.all false
set_option maxRecDepth 100000
set_option maxHeartbeats 4000000

namespace EL
open PySem PySem.Spec PyProof.Rows L2

abbrev D := PyData
/-- what a name may hold: a datum, or the changing object number n -/
inductive SV where
  | dat (d : D)
  | ptr (n : Nat)
abbrev Ga := List (Option SV)
/-- what a changing object holds: a datum; or names of changing objects within -/
inductive Cell where
  | fl (d : D)
  | ls (ss : List SV)
  | dc (kvs : List (Key × SV))
  | ob (C : Str) (fs : List (Str × SV))
  | st (ks : List Int)
abbrev Sto := List Cell
instance : Coe D Cell := ⟨Cell.fl⟩

/-- F: the changing objects of those who call (not to be touched, not to be met in data) -/
structure Ct where
  P : Program
  w : World
  K : PySem.W.Frag
  mg : Str → Option Value
  F : List Addr
abbrev ctx (X : Cx) : Ct := ⟨X.prog, X.w, X.K, X.mg, []⟩
abbrev Ct.at (c : Ct) (F : List Addr) : Ct := ⟨c.P, c.w, c.K, c.mg, F⟩
abbrev Nin (c : Ct) (ι : List Addr) (a : Addr) : Prop := a ∉ c.F ∧ a ∉ ι

def wrT (K : PySem.W.Frag) (a : Addr) (xs : List V) : Prop :=
  ∃ (o : Obj) (its : Array Value) (n : Nat), K.lookup a = some o ∧ o.cls = .type "tuple" ∧ o.data = .seq its n ∧ its.size ≤ sizeLine ∧ Vals xs its.toList

/-- a dict whose keys are tuples, by its entries: key, the key's address, value -/
def DN (c : Ct) (a : Addr) (xs : List (NestedKey × Addr × Value)) (h : Heap) : Prop :=
  (a == sysModules) = false ∧ xs.length ≤ sizeLine ∧ ∃ o es ep, h.get? a = some o ∧ o.ExactDict ∧ o.data = .dict es ep ∧ es.toList = xs.map (entryOfKey (nestedKind c.P c.w)) ∧ (xs.map (·.1)).Nodup

mutual
def nk : D → NestedKey
  | .none => .none
  | .bool b => .num (if b then 1 else 0)
  | .int i => .num i
  | .str x => .text x
  | .tuple ds => .tup (nks ds)
  | .list _ => .none
  | .dict _ => .none
def nks : List D → List NestedKey
  | [] => []
  | d :: ds => nk d :: nks ds
end
def keyD : Key → D
  | .inl i => .int i
  | .inr x => .str x
mutual
/-- a key of a dict: ints, texts, bools, None, tuples of such -/
def isKey : D → Bool
  | .none => true
  | .bool _ => false
  | .int _ => true
  | .str _ => true
  | .tuple ds => isKeys ds
  | .list _ => false
  | .dict _ => false
def isKeys : List D → Bool
  | [] => true
  | d :: ds => isKey d && isKeys ds
end

/-- a key that is a tuple -/
def keyOk (d : D) : Bool := match d with
  | .tuple ds => isKeys ds && decide ((NestedKey.tup (nks ds)).depth ≤ 8)
  | _ => false
mutual
/-- the value v is the datum d; the lists in it are none of those that may change (ι) -/
inductive IsD (c : Ct) (ι : List Addr) (H : Hp) : V → D → Prop
  | non : IsD c ι H .non .none
  | bl (b : Bool) : IsD c ι H (.bl b) (.bool b)
  | int (i : Int) : IsD c ι H (.int i) (.int i)
  | str (x : Str) : IsD c ι H (.str x) (.str x)
  | lst {a : Addr} {xs : List V} {ds : List D} (h : H a = some (.lst xs)) (ha : Nin c ι a) (t : IsDs c ι H xs ds) : IsD c ι H (.ref a) (.list ds)
  | tup {a : Addr} {xs : List V} {ds : List D} (h : (H a = some (.tup xs) ∧ Nin c ι a) ∨ wrT c.K a xs) (t : IsDs c ι H xs ds) : IsD c ι H (.ref a) (.tuple ds)
  | dK {a : Addr} {xs : List (Key × V)} {kvs : List (D × D)} (h : H a = some (.dK xs)) (ha : Nin c ι a) (t : IsKs c ι H xs kvs) : IsD c ι H (.ref a) (.dict kvs)
  | dN {a : Addr} {xs : List (NestedKey × Addr × Value)} {kvs : List (D × D)} (h : H a = some (.ext (DN c a xs))) (ha : Nin c ι a) (t : IsNs c ι H xs kvs) : IsD c ι H (.ref a) (.dict ((.none, .none) :: kvs))
inductive IsDs (c : Ct) (ι : List Addr) (H : Hp) : List V → List D → Prop
  | nil : IsDs c ι H [] []
  | cons {v : V} {vs : List V} {d : D} {ds : List D} (h : IsD c ι H v d) (t : IsDs c ι H vs ds) : IsDs c ι H (v :: vs) (d :: ds)
inductive IsKs (c : Ct) (ι : List Addr) (H : Hp) : List (Key × V) → List (D × D) → Prop
  | nil : IsKs c ι H [] []
  | cons {k : Key} {v : V} {xs : List (Key × V)} {d : D} {kvs : List (D × D)} (h : IsD c ι H v d) (t : IsKs c ι H xs kvs) : IsKs c ι H ((k, v) :: xs) ((keyD k, d) :: kvs)
inductive IsNs (c : Ct) (ι : List Addr) (H : Hp) : List (NestedKey × Addr × Value) → List (D × D) → Prop
  | nil : IsNs c ι H [] []
  | cons {q : Addr} {kd : D} {u : Value} {v : V} {d : D} {xs : List (NestedKey × Addr × Value)} {kvs : List (D × D)} (hk : IsD c ι H (.ref q) kd) (ok : keyOk kd = true) (rv : RelV v u) (h : IsD c ι H v d) (t : IsNs c ι H xs kvs) :
      IsNs c ι H ((nk kd, q, u) :: xs) ((kd, d) :: kvs)
end

inductive IsS (c : Ct) (ι : List Addr) (H : Hp) : V → SV → Prop
  | dat {v : V} {d : D} (h : IsD c ι H v d) : IsS c ι H v (.dat d)
  | ptr {a : Addr} {n : Nat} (h : ι[n]? = some a) : IsS c ι H (.ref a) (.ptr n)
inductive IsSs (c : Ct) (ι : List Addr) (H : Hp) : List V → List SV → Prop
  | nil : IsSs c ι H [] []
  | cons {v : V} {vs : List V} {s : SV} {ss : List SV} (h : IsS c ι H v s) (t : IsSs c ι H vs ss) : IsSs c ι H (v :: vs) (s :: ss)
inductive IsTs {κ : Type} (c : Ct) (ι : List Addr) (H : Hp) : List (κ × V) → List (κ × SV) → Prop
  | nil : IsTs c ι H [] []
  | cons {k : κ} {v : V} {xs : List (κ × V)} {s : SV} {kvs : List (κ × SV)} (h : IsS c ι H v s) (t : IsTs c ι H xs kvs) : IsTs c ι H ((k, v) :: xs) ((k, s) :: kvs)
/-- the changing object at a holds the datum d -/
inductive OwnD (c : Ct) (ι : List Addr) (H : Hp) (a : Addr) : D → Prop
  | lst {xs : List V} {ds : List D} (h : H a = some (.lst xs)) (t : IsDs c ι H xs ds) : OwnD c ι H a (.list ds)
  | dK {xs : List (Key × V)} {kvs : List (D × D)} (h : H a = some (.dK xs)) (t : IsKs c ι H xs kvs) : OwnD c ι H a (.dict kvs)
  | dN {xs : List (NestedKey × Addr × Value)} {kvs : List (D × D)} (h : H a = some (.ext (DN c a xs))) (t : IsNs c ι H xs kvs) : OwnD c ι H a (.dict ((.none, .none) :: kvs))
/-- the changing object at a holds the cell -/
inductive Own (c : Ct) (ι : List Addr) (H : Hp) (a : Addr) : Cell → Prop
  | fl {d : D} (h : OwnD c ι H a d) : Own c ι H a (.fl d)
  | ls {xs : List V} {ss : List SV} (h : H a = some (.lst xs)) (t : IsSs c ι H xs ss) : Own c ι H a (.ls ss)
  | dc {xs : List (Key × V)} {kvs : List (Key × SV)} (h : H a = some (.dK xs)) (t : IsTs c ι H xs kvs) : Own c ι H a (.dc kvs)
  | ob {A dx : Addr} {C : Str} {xs : List (Str × V)} {fs : List (Str × SV)} (h : H a = some (.ins A dx xs)) (hm : c.mg C = some (.ref A)) (t : IsTs c ι H xs fs) : Own c ι H a (.ob C fs)
  | st {S : Int → Bool} {ks : List Int} (h : H a = some (L2.SetO c.w a S ks.length)) (hS : ∀ k, S k = true ↔ k ∈ ks) (nd : ks.Nodup) : Own c ι H a (.st ks)

structure Rep (c : Ct) (ι : List Addr) (H : Hp) (M : Sto) : Prop where
  len : ι.length = M.length
  nd : ι.Nodup
  fr : ∀ a ∈ c.F, a ∉ ι ∧ ∃ o, H a = some o
  at_ : ∀ (n : Nat) (a : Addr) (d : Cell), ι[n]? = some a → M[n]? = some d → Own c ι H a d

/-- what may have come between two moments: new changing objects, new tracked ones; all that may not change is kept -/
structure Ext (ι : List Addr) (H : Hp) (ι' : List Addr) (H' : Hp) : Prop where
  pre : ∃ l, ι' = ι ++ l ∧ ∀ a ∈ l, H a = none
  keep : ∀ a o, a ∉ ι → H a = some o → H' a = some o
  dom : ∀ a, H' a = none → H a = none

theorem OwnD.there {c : Ct} {ι : List Addr} {H : Hp} {a : Addr} {d : D} (h : OwnD c ι H a d) : ∃ o, H a = some o := by
  cases h with
  | lst h _ => exact ⟨_, h⟩
  | dK h _ => exact ⟨_, h⟩
  | dN h _ => exact ⟨_, h⟩
theorem Own.there {c : Ct} {ι : List Addr} {H : Hp} {a : Addr} {d : Cell} (h : Own c ι H a d) : ∃ o, H a = some o := by
  cases h with
  | fl h => exact h.there
  | ls h _ => exact ⟨_, h⟩
  | dc h _ => exact ⟨_, h⟩
  | ob h _ _ => exact ⟨_, h⟩
  | st h _ _ => exact ⟨_, h⟩
section
variable {c : Ct} {ι ι' ι2 : List Addr} {H H' H2 : Hp}
theorem Ext.refl : Ext ι H ι H := ⟨⟨[], by simp⟩, fun _ _ _ h => h, fun _ h => h⟩
theorem Ext.trans (e : Ext ι H ι' H') (f : Ext ι' H' ι2 H2) : Ext ι H ι2 H2 := by
  obtain ⟨l, rfl, hl⟩ := e.pre
  obtain ⟨l2, rfl, hl2⟩ := f.pre
  refine ⟨⟨l ++ l2, by simp, fun a ha => ?_⟩, fun a o hn h => ?_, fun a h => e.dom a (f.dom a h)⟩
  · rcases List.mem_append.mp ha with h | h
    · exact hl a h
    · exact e.dom a (hl2 a h)
  · refine f.keep a o (fun hm => ?_) (e.keep a o hn h)
    rcases List.mem_append.mp hm with q | q
    · exact hn q
    · rw [hl a q] at h; cases h
theorem Ext.nin (e : Ext ι H ι' H') {a : Addr} {o : HO} (h : H a = some o) (hn : a ∉ ι) : a ∉ ι' := by
  obtain ⟨l, rfl, hl⟩ := e.pre
  intro hm
  rcases List.mem_append.mp hm with q | q
  · exact hn q
  · rw [hl a q] at h; cases h
theorem Ext.at (e : Ext ι H ι' H') {n : Nat} {a : Addr} (h : ι[n]? = some a) : ι'[n]? = some a := by
  obtain ⟨l, rfl, _⟩ := e.pre
  rw [List.getElem?_append_left (List.getElem?_eq_some_iff.mp h).1]
  exact h
mutual
theorem IsD.mono (e : Ext ι H ι' H') : ∀ {v : V} {d : D}, IsD c ι H v d → IsD c ι' H' v d
  | _, _, .non => .non
  | _, _, .bl b => .bl b
  | _, _, .int i => .int i
  | _, _, .str x => .str x
  | _, _, .lst h ha t => .lst (e.keep _ _ ha.2 h) ⟨ha.1, e.nin h ha.2⟩ (IsDs.mono e t)
  | _, _, .tup h t => .tup (h.elim (fun q => .inl ⟨e.keep _ _ q.2.2 q.1, q.2.1, e.nin q.1 q.2.2⟩) .inr) (IsDs.mono e t)
  | _, _, .dK h ha t => .dK (e.keep _ _ ha.2 h) ⟨ha.1, e.nin h ha.2⟩ (IsKs.mono e t)
  | _, _, .dN h ha t => .dN (e.keep _ _ ha.2 h) ⟨ha.1, e.nin h ha.2⟩ (IsNs.mono e t)
theorem IsDs.mono (e : Ext ι H ι' H') : ∀ {v : List V} {d : List D}, IsDs c ι H v d → IsDs c ι' H' v d
  | _, _, .nil => .nil
  | _, _, .cons h t => .cons (IsD.mono e h) (IsDs.mono e t)
theorem IsKs.mono (e : Ext ι H ι' H') : ∀ {v : List (Key × V)} {d : List (D × D)}, IsKs c ι H v d → IsKs c ι' H' v d
  | _, _, .nil => .nil
  | _, _, .cons h t => .cons (IsD.mono e h) (IsKs.mono e t)
theorem IsNs.mono (e : Ext ι H ι' H') : ∀ {v : List (NestedKey × Addr × Value)} {d : List (D × D)}, IsNs c ι H v d → IsNs c ι' H' v d
  | _, _, .nil => .nil
  | _, _, .cons hk ok rv h t => .cons (IsD.mono e hk) ok rv (IsD.mono e h) (IsNs.mono e t)
end
theorem IsS.mono (e : Ext ι H ι' H') {v : V} {s : SV} (h : IsS c ι H v s) : IsS c ι' H' v s := by
  cases h with
  | dat h => exact .dat (h.mono e)
  | ptr h => exact .ptr (e.at h)
theorem IsSs.mono (e : Ext ι H ι' H') : ∀ {vs : List V} {ss : List SV}, IsSs c ι H vs ss → IsSs c ι' H' vs ss
  | _, _, .nil => .nil
  | _, _, .cons h t => .cons (h.mono e) (IsSs.mono e t)
theorem IsTs.mono {κ : Type} (e : Ext ι H ι' H') : ∀ {vs : List (κ × V)} {ss : List (κ × SV)}, IsTs c ι H vs ss → IsTs c ι' H' vs ss
  | _, _, .nil => .nil
  | _, _, .cons h t => .cons (h.mono e) (IsTs.mono e t)
theorem IsDs.ss : ∀ {vs : List V} {ds : List D}, IsDs c ι H vs ds → IsSs c ι H vs (ds.map .dat)
  | _, _, .nil => .nil
  | _, _, .cons h t => .cons (.dat h) (IsDs.ss t)
theorem IsSs.length : ∀ {vs : List V} {ss : List SV}, IsSs c ι H vs ss → vs.length = ss.length
  | _, _, .nil => rfl
  | _, _, .cons _ t => by rw [List.length_cons, List.length_cons, IsSs.length t]
theorem IsSs.get : ∀ {vs : List V} {ss : List SV} {i : Nat} {s : SV}, IsSs c ι H vs ss → ss[i]? = some s → ∃ v, vs[i]? = some v ∧ IsS c ι H v s
  | _, _, 0, _, .cons h t, e => by
    have e' := Option.some.inj e
    subst e'
    exact ⟨_, rfl, h⟩
  | _, _, i + 1, _, .cons h t, e => IsSs.get (i := i) t e
  | _, _, _, _, .nil, e => by simp at e
theorem IsSs.append : ∀ {xs ys : List V} {ds es : List SV}, IsSs c ι H xs ds → IsSs c ι H ys es → IsSs c ι H (xs ++ ys) (ds ++ es)
  | _, _, _, _, .nil, s => s
  | _, _, _, _, .cons h t, s => .cons h (IsSs.append t s)
theorem IsSs.take : ∀ {xs : List V} {ds : List SV} (n : Nat), IsSs c ι H xs ds → IsSs c ι H (xs.take n) (ds.take n)
  | _, _, 0, _ => .nil
  | _, _, _ + 1, .nil => .nil
  | _, _, n + 1, .cons h t => .cons h (IsSs.take n t)
theorem IsSs.drop : ∀ {xs : List V} {ds : List SV} (n : Nat), IsSs c ι H xs ds → IsSs c ι H (xs.drop n) (ds.drop n)
  | _, _, 0, h => h
  | _, _, _ + 1, .nil => .nil
  | _, _, n + 1, .cons h t => IsSs.drop n t
theorem IsSs.set {x : V} {d : SV} (h : IsS c ι H x d) : ∀ {xs : List V} {ds : List SV} (n : Nat), IsSs c ι H xs ds → IsSs c ι H (xs.set n x) (ds.set n d)
  | _, _, _, .nil => .nil
  | _, _, 0, .cons _ t => .cons h t
  | _, _, n + 1, .cons g t => .cons g (IsSs.set h n t)
theorem IsSs.erase : ∀ {xs : List V} {ds : List SV} (n : Nat), IsSs c ι H xs ds → IsSs c ι H (xs.eraseIdx n) (ds.eraseIdx n)
  | _, _, _, .nil => .nil
  | _, _, 0, .cons _ t => t
  | _, _, n + 1, .cons h t => .cons h (IsSs.erase n t)
theorem IsDs.length : ∀ {vs : List V} {ds : List D}, IsDs c ι H vs ds → vs.length = ds.length
  | _, _, .nil => rfl
  | _, _, .cons _ t => by rw [List.length_cons, List.length_cons, IsDs.length t]
theorem IsDs.get : ∀ {vs : List V} {ds : List D} {i : Nat} {d : D}, IsDs c ι H vs ds → ds[i]? = some d → ∃ v, vs[i]? = some v ∧ IsD c ι H v d
  | _, _, 0, _, .cons h t, e => by
    have e' := Option.some.inj e
    subst e'
    exact ⟨_, rfl, h⟩
  | _, _, i + 1, _, .cons h t, e => IsDs.get (i := i) t e
  | _, _, _, _, .nil, e => by simp at e
theorem IsDs.get' : ∀ {vs : List V} {ds : List D} {i : Nat} {v : V}, IsDs c ι H vs ds → vs[i]? = some v → ∃ d, ds[i]? = some d ∧ IsD c ι H v d
  | _, _, 0, _, .cons h t, e => by
    have e' := Option.some.inj e
    subst e'
    exact ⟨_, rfl, h⟩
  | _, _, i + 1, _, .cons h t, e => IsDs.get' (i := i) t e
  | _, _, _, _, .nil, e => by simp at e
theorem IsDs.append : ∀ {xs ys : List V} {ds es : List D}, IsDs c ι H xs ds → IsDs c ι H ys es → IsDs c ι H (xs ++ ys) (ds ++ es)
  | _, _, _, _, .nil, s => s
  | _, _, _, _, .cons h t, s => .cons h (IsDs.append t s)
theorem IsDs.take : ∀ {xs : List V} {ds : List D} (n : Nat), IsDs c ι H xs ds → IsDs c ι H (xs.take n) (ds.take n)
  | _, _, 0, _ => .nil
  | _, _, _ + 1, .nil => .nil
  | _, _, n + 1, .cons h t => .cons h (IsDs.take n t)
theorem IsDs.drop : ∀ {xs : List V} {ds : List D} (n : Nat), IsDs c ι H xs ds → IsDs c ι H (xs.drop n) (ds.drop n)
  | _, _, 0, h => h
  | _, _, _ + 1, .nil => .nil
  | _, _, n + 1, .cons h t => IsDs.drop n t
theorem IsDs.set {x : V} {d : D} (h : IsD c ι H x d) : ∀ {xs : List V} {ds : List D} (n : Nat), IsDs c ι H xs ds → IsDs c ι H (xs.set n x) (ds.set n d)
  | _, _, _, .nil => .nil
  | _, _, 0, .cons _ t => .cons h t
  | _, _, n + 1, .cons g t => .cons g (IsDs.set h n t)
theorem IsDs.reverse {xs : List V} {ds : List D} (h : IsDs c ι H xs ds) : IsDs c ι H xs.reverse ds.reverse := by
  induction xs generalizing ds with
  | nil => cases h; exact .nil
  | cons x xs ih =>
    cases h with
    | cons h t =>
      rw [List.reverse_cons, List.reverse_cons]
      exact (ih t).append (.cons h .nil)
theorem IsDs.dropLast {xs : List V} {ds : List D} (h : IsDs c ι H xs ds) : IsDs c ι H xs.dropLast ds.dropLast := by
  rw [List.dropLast_eq_take, List.dropLast_eq_take, h.length]
  exact h.take _
theorem IsDs.erase : ∀ {xs : List V} {ds : List D} (n : Nat), IsDs c ι H xs ds → IsDs c ι H (xs.eraseIdx n) (ds.eraseIdx n)
  | _, _, _, .nil => .nil
  | _, _, 0, .cons _ t => t
  | _, _, n + 1, .cons h t => .cons h (IsDs.erase n t)
theorem IsDs.rep {xs : List V} {ds : List D} (h : IsDs c ι H xs ds) : ∀ k : Nat, IsDs c ι H (List.replicate k xs).flatten (List.replicate k ds).flatten
  | 0 => .nil
  | k + 1 => by
    rw [List.replicate_succ, List.replicate_succ, List.flatten_cons, List.flatten_cons]
    exact h.append (IsDs.rep h k)
theorem isDs_ints : ∀ ns : List Int, IsDs c ι H (ns.map V.int) (ns.map PyData.int)
  | [] => .nil
  | n :: ns => .cons (.int n) (isDs_ints ns)
theorem isDs_bls : ∀ ns : List Bool, IsDs c ι H (ns.map V.bl) (ns.map PyData.bool)
  | [] => .nil
  | n :: ns => .cons (.bl n) (isDs_bls ns)
theorem isDs_strs : ∀ ns : List Str, IsDs c ι H (ns.map V.str) (ns.map PyData.str)
  | [] => .nil
  | n :: ns => .cons (.str n) (isDs_strs ns)
theorem IsDs.ints : ∀ {xs : List V} {ns : List Int}, IsDs c ι H xs (ns.map PyData.int) → xs = ns.map V.int
  | [], [], _ => rfl
  | _ :: _, _ :: _, .cons h t => by
    cases h
    rw [List.map_cons, IsDs.ints t]
  | _ :: _, [], h => by cases h
  | [], _ :: _, h => by cases h
theorem IsDs.bls : ∀ {xs : List V} {ns : List Bool}, IsDs c ι H xs (ns.map PyData.bool) → xs = ns.map V.bl
  | [], [], _ => rfl
  | _ :: _, _ :: _, .cons h t => by
    cases h
    rw [List.map_cons, IsDs.bls t]
  | _ :: _, [], h => by cases h
  | [], _ :: _, h => by cases h
theorem IsDs.strs : ∀ {xs : List V} {ns : List Str}, IsDs c ι H xs (ns.map PyData.str) → xs = ns.map V.str
  | [], [], _ => rfl
  | _ :: _, _ :: _, .cons h t => by
    cases h
    rw [List.map_cons, IsDs.strs t]
  | _ :: _, [], h => by cases h
  | [], _ :: _, h => by cases h
/-- other changing objects, all of them among the known ones -/
theorem sub_nin {F F' l l' : List Addr} (s : ∀ a, a ∈ F' ∨ a ∈ l' → a ∈ F ∨ a ∈ l) {a : Addr} (h : a ∉ F ∧ a ∉ l) : a ∉ F' ∧ a ∉ l' := ⟨fun q => (s a (.inl q)).elim h.1 h.2, fun q => (s a (.inr q)).elim h.1 h.2⟩
mutual
theorem IsD.sub {F F' : List Addr} (s : ∀ a, a ∈ F' ∨ a ∈ ι' → a ∈ F ∨ a ∈ ι) : ∀ {v : V} {d : D}, IsD (c.at F) ι H v d → IsD (c.at F') ι' H v d
  | _, _, .non => .non
  | _, _, .bl b => .bl b
  | _, _, .int i => .int i
  | _, _, .str x => .str x
  | _, _, .lst h ha t => .lst h (sub_nin s ha) (IsDs.sub s t)
  | _, _, .tup h t => .tup (h.elim (fun q => .inl ⟨q.1, sub_nin s q.2⟩) .inr) (IsDs.sub s t)
  | _, _, .dK h ha t => .dK h (sub_nin s ha) (IsKs.sub s t)
  | _, _, .dN h ha t => .dN h (sub_nin s ha) (IsNs.sub s t)
theorem IsDs.sub {F F' : List Addr} (s : ∀ a, a ∈ F' ∨ a ∈ ι' → a ∈ F ∨ a ∈ ι) : ∀ {v : List V} {d : List D}, IsDs (c.at F) ι H v d → IsDs (c.at F') ι' H v d
  | _, _, .nil => .nil
  | _, _, .cons h t => .cons (IsD.sub s h) (IsDs.sub s t)
theorem IsKs.sub {F F' : List Addr} (s : ∀ a, a ∈ F' ∨ a ∈ ι' → a ∈ F ∨ a ∈ ι) : ∀ {v : List (Key × V)} {d : List (D × D)}, IsKs (c.at F) ι H v d → IsKs (c.at F') ι' H v d
  | _, _, .nil => .nil
  | _, _, .cons h t => .cons (IsD.sub s h) (IsKs.sub s t)
theorem IsNs.sub {F F' : List Addr} (s : ∀ a, a ∈ F' ∨ a ∈ ι' → a ∈ F ∨ a ∈ ι) : ∀ {v : List (NestedKey × Addr × Value)} {d : List (D × D)}, IsNs (c.at F) ι H v d → IsNs (c.at F') ι' H v d
  | _, _, .nil => .nil
  | _, _, .cons hk ok rv h t => .cons (IsD.sub s hk) ok rv (IsD.sub s h) (IsNs.sub s t)
end
theorem OwnD.sub {F F' : List Addr} (s : ∀ a, a ∈ F' ∨ a ∈ ι' → a ∈ F ∨ a ∈ ι) {a : Addr} {d : D} (h : OwnD (c.at F) ι H a d) : OwnD (c.at F') ι' H a d := by
  cases h with
  | lst h t => exact .lst h (t.sub s)
  | dK h t => exact .dK h (t.sub s)
  | dN h t => exact .dN h (t.sub s)
theorem IsS.sub {F F' : List Addr} (s : ∀ a, a ∈ F' ∨ a ∈ ι' → a ∈ F ∨ a ∈ ι) (hp : ∀ (n : Nat) (a : Addr), ι[n]? = some a → ι'[n]? = some a) {v : V} {d : SV} (h : IsS (c.at F) ι H v d) : IsS (c.at F') ι' H v d := by
  cases h with
  | dat h => exact .dat (h.sub s)
  | ptr h => exact .ptr (hp _ _ h)
theorem OwnD.isD {a : Addr} {d : D} (h : OwnD c ι H a d) (ha : Nin c ι a) : IsD c ι H (.ref a) d := by
  cases h with
  | lst h t => exact .lst h ha t
  | dK h t => exact .dK h ha t
  | dN h t => exact .dN h ha t
theorem OwnD.mono (e : Ext ι H ι' H') {a : Addr} {d : D} (h : OwnD c ι H a d) (ha : ∀ o, H a = some o → H' a = some o) : OwnD c ι' H' a d := by
  cases h with
  | lst h t => exact .lst (ha _ h) (t.mono e)
  | dK h t => exact .dK (ha _ h) (t.mono e)
  | dN h t => exact .dN (ha _ h) (t.mono e)
theorem Own.mono (e : Ext ι H ι' H') {a : Addr} {d : Cell} (h : Own c ι H a d) (ha : ∀ o, H a = some o → H' a = some o) : Own c ι' H' a d := by
  cases h with
  | fl h => exact .fl (h.mono e ha)
  | ls h t => exact .ls (ha _ h) (t.mono e)
  | dc h t => exact .dc (ha _ h) (t.mono e)
  | ob h hm t => exact .ob (ha _ h) hm (t.mono e)
  | st h hS nd => exact .st (ha _ h) hS nd
theorem Rep.there {M : Sto} (r : Rep c ι H M) {a : Addr} (ha : a ∈ ι) : ∃ o, H a = some o := by
  obtain ⟨n, hn, e⟩ := List.getElem_of_mem ha
  have hm : n < M.length := by rw [← r.len]; exact hn
  exact (r.at_ n a M[n] (by rw [List.getElem?_eq_getElem hn, e]) (List.getElem?_eq_getElem hm)).there
theorem Rep.nin {M : Sto} (r : Rep c ι H M) {p : Addr} (hp : H p = none) : Nin c ι p := by
  constructor
  · intro h
    obtain ⟨_, o, e⟩ := r.fr p h
    rw [hp] at e
    cases e
  · intro h
    obtain ⟨o, e⟩ := r.there h
    rw [hp] at e
    cases e
theorem Ext.new {p : Addr} {o : HO} (hp : H p = none) : Ext ι H ι (upd H p o) := by
  refine ⟨⟨[], by simp⟩, fun a u _ h => ?_, fun a h => ?_⟩
  · rw [upd_ne (ne_of_none h hp)]; exact h
  · by_cases e : a = p
    · rw [e, upd_same] at h; cases h
    · rwa [upd_ne e] at h
/-- a new object that is not to change -/
theorem Rep.new {M : Sto} (r : Rep c ι H M) {p : Addr} {o : HO} (hp : H p = none) : Rep c ι (upd H p o) M :=
  ⟨r.len, r.nd, fun a h => ⟨(r.fr a h).1, let ⟨o, e⟩ := (r.fr a h).2; ⟨o, by rw [upd_ne (ne_of_none e hp)]; exact e⟩⟩, fun n a d e1 e2 => (r.at_ n a d e1 e2).mono (Ext.new hp) fun u h => by rw [upd_ne (ne_of_none h hp)]; exact h⟩
theorem Ext.newP {p : Addr} {o : HO} (hp : H p = none) : Ext ι H (ι ++ [p]) (upd H p o) := by
  refine ⟨⟨[p], rfl, fun a h => ?_⟩, (Ext.new (ι := ι) hp).keep, (Ext.new (ι := ι) hp).dom⟩
  rw [List.mem_singleton.mp h]
  exact hp
/-- a new object that may change -/
theorem Rep.newP {M : Sto} (r : Rep c ι H M) {p : Addr} {o : HO} {d : Cell} (hp : H p = none) (ho : Own c (ι ++ [p]) (upd H p o) p d) : Rep c (ι ++ [p]) (upd H p o) (M ++ [d]) := by
  refine ⟨by rw [List.length_append, List.length_append, r.len]; rfl, ?_, fun a h => ?_, fun n a e e1 e2 => ?_⟩
  · rw [List.nodup_append]
    refine ⟨r.nd, by simp, fun a ha b hb => ?_⟩
    rw [List.mem_singleton.mp hb]
    intro z
    subst z
    exact (r.nin hp).2 ha
  · obtain ⟨h1, o, e⟩ := r.fr a h
    refine ⟨fun hm => ?_, o, by rw [upd_ne (ne_of_none e hp)]; exact e⟩
    rcases List.mem_append.mp hm with q | q
    · exact h1 q
    · exact ne_of_none e hp (List.mem_singleton.mp q)
  · by_cases hn : n < ι.length
    · have hm : n < M.length := by rw [← r.len]; exact hn
      rw [List.getElem?_append_left hn] at e1
      rw [List.getElem?_append_left hm] at e2
      exact (r.at_ n a e e1 e2).mono (Ext.newP hp) fun u h => by rw [upd_ne (ne_of_none h hp)]; exact h
    · have hn2 : n = ι.length := by
        have := (List.getElem?_eq_some_iff.mp e1).1
        rw [List.length_append, List.length_singleton] at this
        omega
      subst hn2
      rw [List.getElem?_append_right (Nat.le_refl _), Nat.sub_self] at e1
      rw [List.getElem?_append_right (by rw [r.len]; exact Nat.le_refl _), r.len, Nat.sub_self] at e2
      have q1 : p = a := Option.some.inj e1
      have q2 : d = e := Option.some.inj e2
      subst q1 q2
      exact ho
/-- the changing object number n is written -/
theorem Ext.write {n : Nat} {a : Addr} {o : HO} (ha : ι[n]? = some a) : Ext ι H ι (upd H a o) := by
  have hm : a ∈ ι := List.mem_of_getElem? ha
  refine ⟨⟨[], by simp⟩, fun b u hb h => ?_, fun b h => ?_⟩
  · rw [upd_ne (fun z : b = a => hb (by rw [z]; exact hm))]; exact h
  · by_cases e : b = a
    · rw [e, upd_same] at h; cases h
    · rwa [upd_ne e] at h
theorem Rep.write {M : Sto} (r : Rep c ι H M) {n : Nat} {a : Addr} {o : HO} {d : Cell} (ha : ι[n]? = some a) (ho : Own c ι (upd H a o) a d) : Rep c ι (upd H a o) (M.set n d) := by
  have hma : a ∈ ι := List.mem_of_getElem? ha
  refine ⟨by rw [List.length_set]; exact r.len, r.nd, fun b h => ⟨(r.fr b h).1, let ⟨o, e⟩ := (r.fr b h).2; ⟨o, by rw [upd_ne (fun z : b = a => (r.fr b h).1 (by rw [z]; exact hma))]; exact e⟩⟩, fun m b e e1 e2 => ?_⟩
  by_cases hm : m = n
  · subst hm
    rw [ha] at e1
    have q1 : a = b := Option.some.inj e1
    subst q1
    have hlt : m < M.length := by rw [← r.len]; exact (List.getElem?_eq_some_iff.mp ha).1
    rw [List.getElem?_set_self hlt] at e2
    have q2 : d = e := Option.some.inj e2
    subst q2
    exact ho
  · rw [List.getElem?_set_ne (Ne.symm hm)] at e2
    refine (r.at_ m b e e1 e2).mono (Ext.write ha) fun u h => ?_
    have hb : b ≠ a := fun z => by
      subst z
      exact hm ((List.getElem?_inj (List.getElem?_eq_some_iff.mp e1).1 r.nd).mp (e1.trans ha.symm))
    rw [upd_ne hb]; exact h
end
end EL
namespace EL
open PySem PySem.Spec PyProof.Rows L2

/-- a size that every list, tuple and text keeps below -/
def LIM : Nat := 10000000
theorem lim_lt {n : Nat} (h : n ≤ LIM) : n < sizeLine := Nat.lt_of_le_of_lt h (by decide)
theorem lim_le {n : Nat} (h : n ≤ LIM) : n ≤ sizeLine := Nat.le_of_lt (lim_lt h)

structure Wd (c : Ct) (ι : List Addr) (σ : L2.St) (H : Hp) (Γ : Ga) (M : Sto) : Prop where
  rep : Rep c ι H M
  len : σ.length = Γ.length
  at_ : ∀ (i : Nat) (s : SV), Γ[i]? = some (some s) → ∃ v, σ[i]? = some (some v) ∧ IsS c ι H v s

def Aft (c : Ct) (ι : List Addr) (H : Hp) (M' : Sto) (s : SV) (Q : VK) : Prop :=
  ∀ v ι' H', Ext ι H ι' H' → Rep c ι' H' M' → IsS c ι' H' v s → Q v H'
abbrev DE := Ga → Sto → Option (SV × Sto)
abbrev DT := Ga → Sto → Option (Bool × Sto)
abbrev DA := Ga → Sto → Option (List SV × Sto)
def rdE (c : Ct) (f : DE) : TE := fun σ H Q => ∃ F ι Γ M s M', Wd (c.at F) ι σ H Γ M ∧ f Γ M = some (s, M') ∧ Aft (c.at F) ι H M' s Q
def rdT (c : Ct) (f : DT) : TT := fun σ H Q => ∃ F ι Γ M b M', Wd (c.at F) ι σ H Γ M ∧ f Γ M = some (b, M') ∧ ∀ ι' H', Ext ι H ι' H' → Rep (c.at F) ι' H' M' → Q b H'
def rdA (c : Ct) (f : DA) : TA := fun σ H Q => ∃ F ι Γ M ss M', Wd (c.at F) ι σ H Γ M ∧ f Γ M = some (ss, M') ∧ ∀ vs ι' H', Ext ι H ι' H' → Rep (c.at F) ι' H' M' → IsSs (c.at F) ι' H' vs ss → Q vs H'

abbrev PD (X : Cx) (e : Expr) (f : DE) : Prop := PE X e (rdE (ctx X) f)
abbrev PDT (X : Cx) (e : Expr) (f : DT) : Prop := PT X e (rdT (ctx X) f)
abbrev PDW (X : Cx) (e : Expr) (f : DT) : Prop := PW X e (rdT (ctx X) f)
abbrev PDA (X : Cx) (es : List Expr) (f : DA) : Prop := PA X es (rdA (ctx X) f)

theorem PE.weak {X : Cx} {e : Expr} {t t' : TE} (h : PE X e t) (w : ∀ σ H Q, t' σ H Q → t σ H Q) : PE X e t' := ⟨fun pins s σ H Q I q => h.run pins s σ H Q I (w σ H Q q)⟩
theorem PT.weak {X : Cx} {e : Expr} {t t' : TT} (h : PT X e t) (w : ∀ σ H Q, t' σ H Q → t σ H Q) : PT X e t' := ⟨fun pins s σ H Q I q => h.run pins s σ H Q I (w σ H Q q)⟩
theorem PW.weak {X : Cx} {e : Expr} {t t' : TT} (h : PW X e t) (w : ∀ σ H Q, t' σ H Q → t σ H Q) : PW X e t' := ⟨fun wh pins s σ H Q I q => h.run wh pins s σ H Q I (w σ H Q q)⟩
theorem PA.weak {X : Cx} {es : List Expr} {t t' : TA} (h : PA X es t) (w : ∀ σ H Q, t' σ H Q → t σ H Q) : PA X es t' := ⟨fun pos pins s σ H Q I q => h.run pos pins s σ H Q I (w σ H Q q)⟩
theorem PS.weak {X : Cx} {st : Stmt} {t t' : TS} (h : PS X st t) (w : ∀ D σ H, t' D σ H → t D σ H) : PS X st t' := ⟨fun pins s σ H D I q => h.run pins s σ H D I (w D σ H q)⟩
theorem PSs.weak {X : Cx} {st : List Stmt} {t t' : TS} (h : PSs X st t) (w : ∀ D σ H, t' D σ H → t D σ H) : PSs X st t' := ⟨fun pins s σ H D I q => h.run pins s σ H D I (w D σ H q)⟩

section
variable {c : Ct} {ι ι' : List Addr} {H H' : Hp} {σ : L2.St} {Γ : Ga} {M M' : Sto}
theorem Wd.next (w : Wd c ι σ H Γ M) (e : Ext ι H ι' H') (r : Rep c ι' H' M') : Wd c ι' σ H' Γ M' :=
  ⟨r, w.len, fun i s h => let ⟨v, h1, h2⟩ := w.at_ i s h; ⟨v, h1, h2.mono e⟩⟩
/-- what is read off a value: a datum, or what a changing object holds now -/
inductive Rdb (c : Ct) (ι : List Addr) (H : Hp) : V → D → Prop
  | ofD {v : V} {d : D} (h : IsD c ι H v d) : Rdb c ι H v d
  | own {a : Addr} {d : D} (h : OwnD c ι H a d) : Rdb c ι H (.ref a) d
def flD : Option Cell → Option D
  | some (.fl d) => some d
  | _ => none
theorem flD_some {o : Option Cell} {d : D} (h : flD o = some d) : o = some (.fl d) := by
  unfold flD at h
  split at h
  · cases h; rfl
  · cases h
def val (s : SV) (M : Sto) : Option D := match s with
  | .dat d => some d
  | .ptr n => flD M[n]?
theorem rdb_of {v : V} {s : SV} {d : D} (r : Rep c ι H M) (h : IsS c ι H v s) (e : val s M = some d) : Rdb c ι H v d := by
  cases h with
  | dat h =>
    cases e
    exact .ofD h
  | ptr h =>
    cases r.at_ _ _ _ h (flD_some e) with
    | fl h => exact .own h
theorem Rdb.int {v : V} {i : Int} (h : Rdb c ι H v (.int i)) : v = .int i := by
  cases h with
  | ofD h => cases h; rfl
  | own h => cases h
theorem Rdb.str {v : V} {i : Str} (h : Rdb c ι H v (.str i)) : v = .str i := by
  cases h with
  | ofD h => cases h; rfl
  | own h => cases h
theorem Rdb.bl {v : V} {i : Bool} (h : Rdb c ι H v (.bool i)) : v = .bl i := by
  cases h with
  | ofD h => cases h; rfl
  | own h => cases h
theorem Rdb.non {v : V} (h : Rdb c ι H v .none) : v = .non := by
  cases h with
  | ofD h => cases h; rfl
  | own h => cases h
theorem Rdb.lst {v : V} {ds : List D} (h : Rdb c ι H v (.list ds)) : ∃ a xs, v = .ref a ∧ H a = some (.lst xs) ∧ IsDs c ι H xs ds := by
  cases h with
  | ofD h => cases h with | lst h _ t => exact ⟨_, _, rfl, h, t⟩
  | own h => cases h with | lst h t => exact ⟨_, _, rfl, h, t⟩
theorem sqT_of {a : Addr} {xs : List V} (h : (H a = some (.tup xs) ∧ Nin c ι a) ∨ wrT c.K a xs) : SqT c.K H a xs := h.elim (fun q => .inl (.inl q.1)) fun ⟨o, its, n, h⟩ => .inr ⟨o, its, n, h⟩
theorem Rdb.tup {v : V} {ds : List D} (h : Rdb c ι H v (.tuple ds)) : ∃ a xs, v = .ref a ∧ SqT c.K H a xs ∧ IsDs c ι H xs ds ∧ IsD c ι H v (.tuple ds) := by
  cases h with
  | ofD h => cases h with | tup h t => exact ⟨_, _, rfl, sqT_of h, t, .tup h t⟩
  | own h => cases h
mutual
theorem IsD.dp : ∀ (d : D) (v : V), d.plain = true → IsD c ι H v d → Dp c.K H v d
  | .none, _, _, h => by cases h; exact .non
  | .bool b, _, _, h => by cases h; exact .bl b
  | .int i, _, _, h => by cases h; exact .int i
  | .str x, _, _, h => by cases h; exact .str x
  | .list ds, _, p, h => by
    cases h with
    | lst h _ t => exact .lst (.of h) (IsDs.dp ds _ (by simpa [PyData.plain] using p) t)
  | .tuple ds, _, p, h => by
    cases h with
    | tup h t => exact .tup (sqT_of h) (IsDs.dp ds _ (by simpa [PyData.plain] using p) t)
  | .dict _, _, p, _ => by simp [PyData.plain] at p
theorem IsDs.dp : ∀ (ds : List D) (vs : List V), PyData.plainAll ds = true → IsDs c ι H vs ds → DpAll c.K H vs ds
  | [], _, _, h => by cases h; exact .nil
  | d :: ds, _, p, h => by
    cases h with
    | cons h t =>
      rw [PyData.plainAll, Bool.and_eq_true] at p
      exact .cons (IsD.dp d _ p.1 h) (IsDs.dp ds _ p.2 t)
end
theorem Rdb.dp {v : V} {d : D} (h : Rdb c ι H v d) (p : d.plain = true) : Dp c.K H v d := by
  cases h with
  | ofD h => exact h.dp d v p
  | own h =>
    cases h with
    | lst h t => exact .lst (.of h) (IsDs.dp _ _ (by simpa [PyData.plain] using p) t)
    | dK h t => simp [PyData.plain] at p
    | dN h _ => simp [PyData.plain] at p
end

/-- a result: a datum, or a new changing object that holds it -/
inductive OR where
  | dat (d : D)
  | new (d : D)
def OR.out (o : OR) (m : Bool) (M : Sto) : SV × Sto := match o with
  | .dat d => (.dat d, M)
  | .new d => if m = true then (.ptr M.length, M ++ [.fl d]) else (.dat d, M)
def AftO (c : Ct) (ι : List Addr) (H : Hp) (M : Sto) (m : Bool) (o : OR) (Q : VK) : Prop := Aft c ι H (o.out m M).2 (o.out m M).1 Q
section
variable {c : Ct} {ι : List Addr} {H : Hp} {M : Sto} {Q : VK} {m : Bool}
theorem AftO.dat {d : D} {v : V} (h : AftO c ι H M m (.dat d) Q) (r : Rep c ι H M) (i : IsD c ι H v d) : Q v H := h v ι H .refl r (.dat i)
theorem AftO.newT {ds : List D} {xs : List V} (h : AftO c ι H M m (.dat (.tuple ds)) Q) (r : Rep c ι H M) (i : IsDs c ι H xs ds) {p : Addr} (hp : H p = none) : Q (.ref p) (upd H p (.tup xs)) :=
  h _ ι _ (Ext.new hp) (r.new hp) (.dat (.tup (.inl ⟨upd_same, r.nin hp⟩) (i.mono (Ext.new hp))))
/-- a new object at p, that is made of what was there -/
theorem AftO.newD {d : D} {o : HO} (h : AftO c ι H M m (.new d) Q) (r : Rep c ι H M) {p : Addr} (hp : H p = none) (i : ∀ ι', Ext ι H ι' (upd H p o) → OwnD c ι' (upd H p o) p d) : Q (.ref p) (upd H p o) := by
  cases m with
  | false => exact h _ ι _ (Ext.new hp) (r.new hp) (.dat ((i ι (Ext.new hp)).isD (r.nin hp)))
  | true =>
    exact h _ (ι ++ [p]) _ (Ext.newP hp) (r.newP hp (.fl (i _ (Ext.newP hp)))) (.ptr (by
      show (ι ++ [p])[M.length]? = some p
      rw [← r.len, List.getElem?_append_right (Nat.le_refl _), Nat.sub_self]; rfl))
theorem AftO.newL {ds : List D} {xs : List V} (h : AftO c ι H M m (.new (.list ds)) Q) (r : Rep c ι H M) (i : IsDs c ι H xs ds) {p : Addr} (hp : H p = none) : Q (.ref p) (upd H p (.lst xs)) :=
  h.newD r hp fun ι' x => .lst upd_same (i.mono x)
end
def R2D (c : Ct) (r : R2) (g : D → D → Option OR) : Prop := ∀ (F ι : List Addr) (H : Hp) (M : Sto) (m : Bool) (x y : V) (dx dy : D) (o : OR) (Q : VK), Rep (c.at F) ι H M → Rdb (c.at F) ι H x dx → Rdb (c.at F) ι H y dy → g dx dy = some o → AftO (c.at F) ι H M m o Q → r x y H Q
def R1D (c : Ct) (r : V → Hp → VK → Prop) (g : D → Option OR) : Prop := ∀ (F ι : List Addr) (H : Hp) (M : Sto) (m : Bool) (x : V) (dx : D) (o : OR) (Q : VK), Rep (c.at F) ι H M → Rdb (c.at F) ι H x dx → g dx = some o → AftO (c.at F) ι H M m o Q → r x H Q
inductive Rdbs (c : Ct) (ι : List Addr) (H : Hp) : List V → List D → Prop
  | nil : Rdbs c ι H [] []
  | cons {v : V} {vs : List V} {d : D} {ds : List D} (h : Rdb c ι H v d) (t : Rdbs c ι H vs ds) : Rdbs c ι H (v :: vs) (d :: ds)
def RCD (c : Ct) (r : List V → Hp → VK → Prop) (g : List D → Option OR) : Prop := ∀ (F ι : List Addr) (H : Hp) (M : Sto) (m : Bool) (xs : List V) (ds : List D) (o : OR) (Q : VK), Rep (c.at F) ι H M → Rdbs (c.at F) ι H xs ds → g ds = some o → AftO (c.at F) ι H M m o Q → r xs H Q

def dVar (i : Nat) : DE := fun Γ M => match Γ[i]? with
  | some (some s) => some (s, M)
  | _ => none
def dC (d : D) : DE := fun _ M => some (.dat d, M)
def dBin (g : D → D → Option OR) (fa fb : DE) (m : Bool := false) : DE := fun Γ M => (fa Γ M).bind fun p => (fb Γ p.2).bind fun q => (val p.1 q.2).bind fun d => (val q.1 q.2).bind fun e => (g d e).map fun o => o.out m q.2
def dUn (g : D → Option OR) (fa : DE) (m : Bool := false) : DE := fun Γ M => (fa Γ M).bind fun p => (val p.1 p.2).bind fun d => (g d).map fun o => o.out m p.2
def dNil : DA := fun _ M => some ([], M)
def dCons (fa : DE) (fr : DA) : DA := fun Γ M => (fa Γ M).bind fun p => (fr Γ p.2).bind fun q => some (p.1 :: q.1, q.2)
/-- all are data -/
def dats : List SV → Option (List D)
  | [] => some []
  | .dat d :: r => (dats r).map (d :: ·)
  | .ptr _ :: _ => none
def vals : List SV → Sto → Option (List D)
  | [], _ => some []
  | s :: r, M => (val s M).bind fun d => (vals r M).map (d :: ·)
def dTup (fa : DA) : DE := fun Γ M => (fa Γ M).bind fun p => (dats p.1).bind fun ds => if ds.length ≤ LIM then some (.dat (.tuple ds), p.2) else none
/-- a new list that is not to change; one that may -/
def dLst (fa : DA) : DE := fun Γ M => (fa Γ M).bind fun p => (dats p.1).bind fun ds => if ds.length ≤ LIM then some (.dat (.list ds), p.2) else none
def lstCell (ss : List SV) : Cell := match dats ss with
  | some ds => .fl (.list ds)
  | none => .ls ss
def dLstP (fa : DA) : DE := fun Γ M => (fa Γ M).bind fun p => if p.1.length ≤ LIM then some (.ptr p.2.length, p.2 ++ [lstCell p.1]) else none
def dCB (g : List D → Option OR) (fa : DA) (m : Bool := false) : DE := fun Γ M => (fa Γ M).bind fun p => (vals p.1 p.2).bind fun ds => (g ds).map fun o => o.out m p.2
def tVal (fa : DE) : DT := fun Γ M => (fa Γ M).bind fun p => match p.1 with
  | .dat (.bool b) => some (b, p.2)
  | _ => none
def truD : D → Option Bool
  | .none => some false
  | .bool b => some b
  | .int i => some (i != 0)
  | .str x => if x.length ≤ LIM then some ((x.length : Int) != 0) else none
  | .list xs => some (!xs.isEmpty)
  | .tuple xs => some (!xs.isEmpty)
  | .dict kvs => none
def truS (s : SV) (M : Sto) : Option Bool := match s with
  | .dat d => truD d
  | .ptr n => match M[n]? with
    | some (.fl d) => truD d
    | some (.ls ss) => some (!ss.isEmpty)
    | some (.dc kvs) => some (!kvs.isEmpty)
    | _ => none
def tTru (fa : DE) : DT := fun Γ M => (fa Γ M).bind fun p => (truS p.1 p.2).map fun b => (b, p.2)
def tAnd_ (fa fb : DT) : DT := fun Γ M => (fa Γ M).bind fun p => if p.1 = true then fb Γ p.2 else some (false, p.2)
def tOr_ (fa fb : DT) : DT := fun Γ M => (fa Γ M).bind fun p => if p.1 = true then some (true, p.2) else fb Γ p.2
def tNot_ (fa : DT) : DT := fun Γ M => (fa Γ M).bind fun p => some (!p.1, p.2)
/-- and, or, not of truth values, as values -/
def dAnd (fa fb : DE) : DE := fun Γ M => (fa Γ M).bind fun p => match p.1 with
  | .dat (.bool true) => fb Γ p.2
  | .dat (.bool false) => some (.dat (.bool false), p.2)
  | _ => none
def dOr (fa fb : DE) : DE := fun Γ M => (fa Γ M).bind fun p => match p.1 with
  | .dat (.bool false) => fb Γ p.2
  | .dat (.bool true) => some (.dat (.bool true), p.2)
  | _ => none
def dIf (fc : DT) (fa fb : DE) : DE := fun Γ M => (fc Γ M).bind fun p => if p.1 = true then fa Γ p.2 else fb Γ p.2
def dChain (g g' : D → D → Option OR) (fa fb fc : DE) : DE := fun Γ M => (fa Γ M).bind fun p => (fb Γ p.2).bind fun q => (val p.1 q.2).bind fun d => (val q.1 q.2).bind fun e => (g d e).bind fun o => match o with
  | .dat (.bool true) => (fc Γ q.2).bind fun r => (val q.1 r.2).bind fun e' => (val r.1 r.2).bind fun f => (g' e' f).map fun o' => o'.out false r.2
  | .dat (.bool false) => some (.dat (.bool false), q.2)
  | _ => none

section
variable {X : Cx} {a b e : Expr} {es : List Expr} {fa fb fe : DE} {fr : DA} {pos : Pos} {m : Bool}
theorem pd_var (i : Nat) {x : Str} {pos : Pos} (hN : X.N[i]? = some x := by rfl) (hv : Vis X.env.scope x := by first | exact Or.inl rfl | exact Or.inr (Or.inl rfl) | exact Or.inr (Or.inr rfl)) (hd : (x == ("__debug__" : Str)) = false := by decide)
    (hcd : (x == ("__classdict__" : Str)) = false := by decide) : PD X (.Name x pos) (dVar i) :=
  PE.weak (pe_var hN hv hd hcd) fun σ H Q ⟨F, ι, Γ, M, s, M', w, e, k⟩ => by
    unfold dVar at e
    split at e
    · rename_i s' h
      cases e
      obtain ⟨v, h1, h2⟩ := w.at_ _ _ h
      exact ⟨v, h1, k v ι H .refl w.rep h2⟩
    · cases e
theorem pd_c {v : V} {d : D} (h : PE X e (tC v)) (hd : ∀ F ι H, IsD ((ctx X).at F) ι H v d) : PD X e (dC d) :=
  PE.weak h fun σ H Q ⟨F, ι, Γ, M, s, M', w, e, k⟩ => by
    cases e
    exact k v ι H .refl w.rep (.dat (hd F ι H))
theorem pd_int {i j pos} : PD X (.Constant (.int i) j pos) (dC (.int i)) := pd_c pe_int fun _ _ _ => .int i
theorem pd_bl {i j pos} : PD X (.Constant (.bool i) j pos) (dC (.bool i)) := pd_c pe_bl fun _ _ _ => .bl i
theorem pd_non {j pos} : PD X (.Constant .none j pos) (dC .none) := pd_c pe_non fun _ _ _ => .non
theorem pd_str {i j pos} : PD X (.Constant (.str i) j pos) (dC (.str i)) := pd_c pe_str fun _ _ _ => .str i

theorem rd_bin {r : R2} {g : D → D → Option OR} (hr : R2D (ctx X) r g) {σ : L2.St} {H : Hp} {Q : VK} (q : rdE (ctx X) (dBin g fa fb m) σ H Q) : tOp r (rdE (ctx X) fa) (rdE (ctx X) fb) σ H Q := by
  obtain ⟨F, ι, Γ, M, s, M', w, e, k⟩ := q
  obtain ⟨⟨sa, M1⟩, e1, e⟩ := Option.bind_eq_some_iff.mp e
  obtain ⟨⟨sb, M2⟩, e2, e⟩ := Option.bind_eq_some_iff.mp e
  obtain ⟨da, e3, e⟩ := Option.bind_eq_some_iff.mp e
  obtain ⟨db, e4, e⟩ := Option.bind_eq_some_iff.mp e
  obtain ⟨o, e5, e⟩ := Option.map_eq_some_iff.mp e
  refine ⟨F, ι, Γ, M, sa, M1, w, e1, fun v ι1 H1 x1 r1 i1 => ?_⟩
  refine ⟨F, ι1, Γ, M1, sb, M2, w.next x1 r1, e2, fun u ι2 H2 x2 r2 i2 => ?_⟩
  refine hr F ι2 H2 M2 m v u da db o Q r2 (rdb_of r2 (i1.mono x2) e3) (rdb_of r2 i2 e4) e5 fun v' ι3 H3 x3 r3 i3 => ?_
  simp only [e] at r3 i3
  exact k v' ι3 H3 (x1.trans (x2.trans x3)) r3 i3
theorem pd_op {op : Operator} {r : R2} {g : D → D → Option OR} (ho : OpR X (binaryOp op) r) (hr : R2D (ctx X) r g) (ha : PD X a fa) (hb : PD X b fb) : PD X (.BinOp a op b pos) (dBin g fa fb m) :=
  PE.weak (pe_op ho ha hb) fun _ _ _ => rd_bin hr
theorem pd_cmp {op : CmpOp} {r : R2} {g : D → D → Option OR} (ho : OpR X (compareOp op) r) (hr : R2D (ctx X) r g) (ha : PD X a fa) (hb : PD X b fb) (hm : behindInMarks op b = false) : PD X (.Compare a [op] [b] pos) (dBin g fa fb m) :=
  PE.weak (pe_cmpR ho ha hb hm) fun _ _ _ => rd_bin hr
theorem pd_un {op : UnaryOp} {r : V → Hp → VK → Prop} {g : D → Option OR} (ho : UnR X (unaryOp op) r) (hr : R1D (ctx X) r g) (ha : PD X a fa) : PD X (.UnaryOp op a pos) (dUn g fa m) :=
  PE.weak (pe_un ho ha) fun σ H Q ⟨F, ι, Γ, M, s, M', w, e, k⟩ => by
    obtain ⟨⟨sa, M1⟩, e1, e⟩ := Option.bind_eq_some_iff.mp e
    obtain ⟨da, e3, e⟩ := Option.bind_eq_some_iff.mp e
    obtain ⟨o, e5, e⟩ := Option.map_eq_some_iff.mp e
    refine ⟨F, ι, Γ, M, sa, M1, w, e1, fun v ι1 H1 x1 r1 i1 => ?_⟩
    refine hr F ι1 H1 M1 m v da o Q r1 (rdb_of r1 i1 e3) e5 fun v' ι3 H3 x3 r3 i3 => ?_
    simp only [e] at r3 i3
    exact k v' ι3 H3 (x1.trans x3) r3 i3
theorem pda_nil : PDA X [] dNil := PA.weak pa_nil fun σ H Q ⟨F, ι, Γ, M, s, M', w, e, k⟩ => by
  cases e
  exact k [] ι H .refl w.rep .nil
theorem pda_cons (ha : PD X e fe) (hr : PDA X es fr) (hs : starEach (e :: es) X.env = (false, eval e X.env) :: starEach es X.env := by rfl) : PDA X (e :: es) (dCons fe fr) :=
  PA.weak (pa_cons ha hr hs) fun σ H Q ⟨F, ι, Γ, M, s, M', w, e, k⟩ => by
    obtain ⟨⟨sa, M1⟩, e1, e⟩ := Option.bind_eq_some_iff.mp e
    obtain ⟨⟨ss, M2⟩, e2, e⟩ := Option.bind_eq_some_iff.mp e
    cases e
    refine ⟨F, ι, Γ, M, sa, M1, w, e1, fun v ι1 H1 x1 r1 i1 => ?_⟩
    refine ⟨F, ι1, Γ, M1, ss, M2, w.next x1 r1, e2, fun vs ι2 H2 x2 r2 i2 => ?_⟩
    exact k _ ι2 H2 (x1.trans x2) r2 (.cons (i1.mono x2) i2)
theorem dats_ok {c : Ct} {ι : List Addr} {H : Hp} : ∀ {ss : List SV} {ds : List D} {vs : List V}, dats ss = some ds → IsSs c ι H vs ss → IsDs c ι H vs ds
  | [], ds, vs, e, h => by
    cases e
    cases h
    exact .nil
  | .dat d :: r, ds, vs, e, h => by
    obtain ⟨ds', e', rfl⟩ := Option.map_eq_some_iff.mp e
    cases h with
    | cons h t =>
      cases h with
      | dat h => exact .cons h (dats_ok e' t)
  | .ptr _ :: _, _, _, e, _ => by cases e
theorem vals_ok {c : Ct} {ι : List Addr} {H : Hp} {M : Sto} (r : Rep c ι H M) : ∀ {ss : List SV} {ds : List D} {vs : List V}, vals ss M = some ds → IsSs c ι H vs ss → Rdbs c ι H vs ds
  | [], ds, vs, e, h => by
    cases e
    cases h
    exact .nil
  | s :: ss, ds, vs, e, h => by
    obtain ⟨d, e1, e⟩ := Option.bind_eq_some_iff.mp e
    obtain ⟨ds', e', rfl⟩ := Option.map_eq_some_iff.mp e
    cases h with
    | cons h t => exact .cons (rdb_of r h e1) (vals_ok r e' t)
theorem pd_tup {x1} (h : PDA X es fr) : PD X (.Tuple es x1 pos) (dTup fr) :=
  PE.weak (pe_tup h) fun σ H Q ⟨F, ι, Γ, M, s, M', w, e, k⟩ => by
    obtain ⟨⟨ss, M1⟩, e1, e⟩ := Option.bind_eq_some_iff.mp e
    obtain ⟨ds, e2, e⟩ := Option.bind_eq_some_iff.mp e
    split at e
    · rename_i hl
      cases e
      refine ⟨F, ι, Γ, M, ss, M1, w, e1, fun vs ι1 H1 x1 r1 i1 => ?_⟩
      have i2 := dats_ok e2 i1
      refine ⟨by rw [i2.length]; exact lim_le hl, fun p hp => ?_⟩
      exact k _ ι1 _ (x1.trans (Ext.new hp)) (r1.new hp) (.dat (.tup (.inl ⟨upd_same, r1.nin hp⟩) (i2.mono (Ext.new hp))))
    · cases e
theorem ptr_last {ι : List Addr} {M : Sto} {p : Addr} (h : ι.length = M.length) : (ι ++ [p])[M.length]? = some p := by
  rw [← h, List.getElem?_append_right (Nat.le_refl _), Nat.sub_self]; rfl
theorem pd_lst (h : PDA X es fr) : PD X (.List es pos) (dLst fr) :=
  PE.weak (pe_lst h) fun σ H Q ⟨F, ι, Γ, M, s, M', w, e, k⟩ => by
    obtain ⟨⟨ss, M1⟩, e1, e⟩ := Option.bind_eq_some_iff.mp e
    obtain ⟨ds, e2, e⟩ := Option.bind_eq_some_iff.mp e
    split at e
    · rename_i hl
      cases e
      refine ⟨F, ι, Γ, M, ss, M1, w, e1, fun vs ι1 H1 x1 r1 i1 => ?_⟩
      have i2 := dats_ok e2 i1
      refine ⟨by rw [i2.length]; exact lim_le hl, fun p hp => ?_⟩
      exact k _ ι1 _ (x1.trans (Ext.new hp)) (r1.new hp) (.dat (.lst upd_same (r1.nin hp) (i2.mono (Ext.new hp))))
    · cases e
theorem lstCell_own {c : Ct} {ι ι' : List Addr} {H H' : Hp} {vs : List V} {ss : List SV} {p : Addr} (x : Ext ι H ι' H') (i : IsSs c ι H vs ss) (hp : H' p = some (.lst vs)) : Own c ι' H' p (lstCell ss) := by
  unfold lstCell
  split
  · rename_i ds e
    exact .fl (.lst hp ((dats_ok e i).mono x))
  · exact .ls hp (i.mono x)
theorem pd_lstP (h : PDA X es fr) : PD X (.List es pos) (dLstP fr) :=
  PE.weak (pe_lst h) fun σ H Q ⟨F, ι, Γ, M, s, M', w, e, k⟩ => by
    obtain ⟨⟨ss, M1⟩, e1, e⟩ := Option.bind_eq_some_iff.mp e
    simp only at e
    split at e
    · rename_i hl
      cases e
      refine ⟨F, ι, Γ, M, ss, M1, w, e1, fun vs ι1 H1 x1 r1 i1 => ?_⟩
      refine ⟨by rw [i1.length]; exact lim_le hl, fun p hp => ?_⟩
      exact k _ (ι1 ++ [p]) _ (x1.trans (Ext.newP hp)) (r1.newP hp (lstCell_own (Ext.newP hp) i1 upd_same)) (.ptr (ptr_last r1.len))
    · cases e
theorem getLast_split {α : Type} {M : List α} {n : Nat} {d : α} (hn : n + 1 = M.length) (h : M[n]? = some d) : M = M.dropLast ++ [d] := by
  have hne : M ≠ [] := fun z => by rw [z] at hn; cases hn
  have e := List.dropLast_concat_getLast hne
  have q : M.getLast hne = d := by
    rw [List.getLast_eq_getElem]
    have hn' : n < M.length := by omega
    rw [List.getElem?_eq_getElem hn'] at h
    have h' := Option.some.inj h
    rw [← h']
    congr 1
    omega
  rw [q] at e
  exact e.symm
theorem rd_cb {r : List V → Hp → VK → Prop} {g : List D → Option OR} (hr : RCD (ctx X) r g) {σ : L2.St} {H : Hp} {Q : VK} (q : rdE (ctx X) (dCB g fr m) σ H Q) : tCB r (rdA (ctx X) fr) σ H Q := by
  obtain ⟨F, ι, Γ, M, s, M', w, e, k⟩ := q
  obtain ⟨⟨ss, M1⟩, e1, e⟩ := Option.bind_eq_some_iff.mp e
  obtain ⟨ds, e2, e⟩ := Option.bind_eq_some_iff.mp e
  obtain ⟨o, e5, e⟩ := Option.map_eq_some_iff.mp e
  refine ⟨F, ι, Γ, M, ss, M1, w, e1, fun vs ι1 H1 x1 r1 i1 => ?_⟩
  refine hr F ι1 H1 M1 m vs ds o Q r1 (vals_ok r1 e2 i1) e5 fun v' ι3 H3 x3 r3 i3 => ?_
  simp only [e] at r3 i3
  exact k v' ι3 H3 (x1.trans x3) r3 i3
theorem pd_cb {id : String} {x : Str} {p : Pos} {r : List V → Hp → VK → Prop} {g : List D → Option OR} (hr : RCD (ctx X) r g) (hc : CallR X (.builtin id) r) (hg : Gl X x) (hm : X.mg x = none) (hv : bootBuiltins x = some (.builtin id)) (ha : PDA X (e :: es) fr) (hn : x ≠ "__name__" := by decide) (hdb : (x == ("__debug__" : Str)) = false := by decide)
    (he : starEach (e :: es) X.env = (false, eval e X.env) :: starEach es X.env := by rfl) (hpl : (backTo pos (starEach es X.env)).any (·.1) = false := by rfl) : PD X (.Call (.Name x p) (e :: es) [] pos) (dCB g fr m) :=
  PE.weak (pe_callB hc hg hm hv ha hn hdb he hpl) fun _ _ _ => rd_cb hr
theorem pd_cty {T : String} {x : Str} {p : Pos} {r : List V → Hp → VK → Prop} {g : List D → Option OR} (hr : RCD (ctx X) r g) (hc : CallR X (.type T) r) (hg : Gl X x) (hm : X.mg x = none) (hv : bootBuiltins x = some (.type T)) (ha : PDA X (e :: es) fr) (hn : x ≠ "__name__" := by decide) (hdb : (x == ("__debug__" : Str)) = false := by decide)
    (he : starEach (e :: es) X.env = (false, eval e X.env) :: starEach es X.env := by rfl) (hpl : (backTo pos (starEach es X.env)).any (·.1) = false := by rfl) : PD X (.Call (.Name x p) (e :: es) [] pos) (dCB g fr m) :=
  PE.weak (pe_callTy hc hg hm hv ha hn hdb he hpl) fun _ _ _ => rd_cb hr
theorem rd_val {σ : L2.St} {H : Hp} {Q : Bool → Hp → Prop} (q : rdT (ctx X) (tVal fa) σ H Q) : (rdE (ctx X) fa) σ H fun x H1 => ∃ c, x = .bl c ∧ Q c H1 := by
  obtain ⟨F, ι, Γ, M, b, M', w, e, k⟩ := q
  obtain ⟨⟨sa, M1⟩, e1, e⟩ := Option.bind_eq_some_iff.mp e
  refine ⟨F, ι, Γ, M, sa, M1, w, e1, fun v ι1 H1 x1 r1 i1 => ?_⟩
  split at e
  · rename_i b' heq
    cases e
    simp only at heq
    subst heq
    cases i1 with
    | dat i1 =>
      cases i1
      exact ⟨_, rfl, k ι1 H1 x1 r1⟩
  · cases e
theorem pdt_cmp {op : CmpOp} {r : R2} {g : D → D → Option OR} (ho : OpR X (compareOp op) r) (hr : R2D (ctx X) r g) (ha : PD X a fa) (hb : PD X b fb) (hm : behindInMarks op b = false) : PDT X (.Compare a [op] [b] pos) (tVal (dBin g fa fb)) :=
  PT.weak (pt_cmpR ho ha hb hm) fun σ H Q q => rd_bin (fa := fa) (fb := fb) hr (rd_val q)
theorem pdt_val (h : PD X e fa) (he : ∀ whole, isTrue e X.env whole = (do let v ← whole; standAt e.pos; holding [v] (truthy v)) := by intro _; rfl) : PDT X e (tVal fa) :=
  PT.weak (pt_val h he) fun σ H Q q => rd_val q
theorem isEmpty_len {α β : Type} {xs : List α} {ys : List β} (h : xs.length = ys.length) : xs.isEmpty = ys.isEmpty := by
  cases xs <;> cases ys <;> first | rfl | cases h
theorem truD_ok {c : Ct} {ι : List Addr} {H : Hp} {v : V} {d : D} {b : Bool} (R : Rdb c ι H v d) (e3 : truD d = some b) : TruV c.K v H b := by
  cases d with
  | none => cases R.non; cases e3; rfl
  | bool y => cases R.bl; cases e3; rfl
  | int y => cases R.int; cases e3; rfl
  | str y =>
    cases R.str
    unfold truD at e3
    simp only at e3
    split at e3
    · rename_i hl
      cases e3
      exact ⟨lim_le hl, rfl⟩
    · cases e3
  | list xs =>
    obtain ⟨p, ys, rfl, hp, hi⟩ := R.lst
    cases e3
    exact .inl ⟨ys, .of hp, by rw [isEmpty_len hi.length]⟩
  | tuple xs =>
    obtain ⟨p, ys, rfl, hp, hi, _⟩ := R.tup
    cases e3
    exact .inr (.inl ⟨ys, hp, by rw [isEmpty_len hi.length]⟩)
  | dict kvs => cases e3
theorem IsTs.length {κ : Type} {c : Ct} {ι : List Addr} {H : Hp} : ∀ {vs : List (κ × V)} {ss : List (κ × SV)}, IsTs c ι H vs ss → vs.length = ss.length
  | _, _, .nil => rfl
  | _, _, .cons _ t => by rw [List.length_cons, List.length_cons, IsTs.length t]
theorem truS_ok {c : Ct} {ι : List Addr} {H : Hp} {M : Sto} {v : V} {s : SV} {b : Bool} (r : Rep c ι H M) (i : IsS c ι H v s) (e3 : truS s M = some b) : TruV c.K v H b := by
  cases i with
  | dat i => exact truD_ok (.ofD i) e3
  | ptr h =>
    unfold truS at e3
    simp only at e3
    split at e3
    · rename_i d hm
      cases r.at_ _ _ _ h hm with
      | fl h => exact truD_ok (.own h) e3
    · rename_i d hm
      cases r.at_ _ _ _ h hm with
      | ls h t =>
        cases e3
        exact .inl ⟨_, .of h, by rw [isEmpty_len t.length]⟩
    · rename_i d hm
      cases r.at_ _ _ _ h hm with
      | dc h t =>
        cases e3
        exact .inr (.inr ⟨_, h, by rw [isEmpty_len t.length]⟩)
    · cases e3
theorem pdt_tru (h : PD X a fa) (he : ∀ whole, isTrue a X.env whole = (do let v ← whole; standAt a.pos; holding [v] (truthy v)) := by intro _; rfl) : PDT X a (tTru fa) :=
  PT.weak (pt_truth h he) fun σ H Q ⟨F, ι, Γ, M, b, M', w, e, k⟩ => by
    obtain ⟨⟨sa, M1⟩, e1, e⟩ := Option.bind_eq_some_iff.mp e
    obtain ⟨b', e3, e⟩ := Option.map_eq_some_iff.mp e
    cases e
    exact ⟨F, ι, Γ, M, sa, M1, w, e1, fun v ι1 H1 x1 r1 i1 => ⟨b, truS_ok (c := (ctx X).at F) r1 i1 e3, k ι1 H1 x1 r1⟩⟩
end
end EL
namespace EL
open PySem PySem.Spec PyProof.Rows L2
section
variable {X : Cx} {a b e d : Expr} {es : List Expr} {fa fb fe fd : DE} {ta tb : DT} {fr : DA} {pos : Pos} {rest : List Expr}
theorem pdt_not (h : PDT X a ta) : PDT X (.UnaryOp .Not a pos) (tNot_ ta) :=
  PT.weak (pt_not h) fun σ H Q ⟨F, ι, Γ, M, c, M', w, e, k⟩ => by
    obtain ⟨⟨s, M1⟩, e1, e⟩ := Option.bind_eq_some_iff.mp e
    cases e
    exact ⟨F, ι, Γ, M, s, M1, w, e1, k⟩
theorem pdw_and1 (h : PDT X a ta) : PDW X (.BoolOp .And [a] pos) ta := pw_and1 h
theorem pdw_or1 (h : PDT X a ta) : PDW X (.BoolOp .Or [a] pos) ta := pw_or1 h
theorem pdw_and (ha : PDT X a ta) (hb : PDW X (.BoolOp .And (b :: rest) pos) tb) : PDW X (.BoolOp .And (a :: b :: rest) pos) (tAnd_ ta tb) :=
  PW.weak (pw_and ha hb) fun σ H Q ⟨F, ι, Γ, M, c, M', w, e, k⟩ => by
    obtain ⟨⟨s, M1⟩, e1, e⟩ := Option.bind_eq_some_iff.mp e
    refine ⟨F, ι, Γ, M, s, M1, w, e1, fun ι1 H1 x1 r1 => ?_⟩
    cases s with
    | true =>
      rw [if_pos rfl] at e
      exact iteT ⟨F, ι1, Γ, M1, c, M', w.next x1 r1, e, fun ι2 H2 x2 r2 => k ι2 H2 (x1.trans x2) r2⟩
    | false =>
      rw [if_neg Bool.false_ne_true] at e
      cases e
      exact iteF (k ι1 H1 x1 r1)
theorem pdw_or (ha : PDT X a ta) (hb : PDW X (.BoolOp .Or (b :: rest) pos) tb) : PDW X (.BoolOp .Or (a :: b :: rest) pos) (tOr_ ta tb) :=
  PW.weak (pw_or ha hb) fun σ H Q ⟨F, ι, Γ, M, c, M', w, e, k⟩ => by
    obtain ⟨⟨s, M1⟩, e1, e⟩ := Option.bind_eq_some_iff.mp e
    refine ⟨F, ι, Γ, M, s, M1, w, e1, fun ι1 H1 x1 r1 => ?_⟩
    cases s with
    | true =>
      rw [if_pos rfl] at e
      cases e
      exact iteT (k ι1 H1 x1 r1)
    | false =>
      rw [if_neg Bool.false_ne_true] at e
      exact iteF ⟨F, ι1, Γ, M1, c, M', w.next x1 r1, e, fun ι2 H2 x2 r2 => k ι2 H2 (x1.trans x2) r2⟩
theorem pdt_w (h : PDW X e ta) : PDT X e ta := PW.pt h
theorem pd_one {op : BoolOp} (h : PD X a fa) : PD X (.BoolOp op [a] pos) fa := pe_one h
theorem pd_and (ha : PD X a fa) (hb : PD X (.BoolOp .And (b :: rest) pos) fb) : PD X (.BoolOp .And (a :: b :: rest) pos) (dAnd fa fb) :=
  PE.weak (pe_and ha hb) fun σ H Q ⟨F, ι, Γ, M, s, M', w, e, k⟩ => by
    obtain ⟨⟨sa, M1⟩, e1, e⟩ := Option.bind_eq_some_iff.mp e
    refine ⟨F, ι, Γ, M, sa, M1, w, e1, fun v ι1 H1 x1 r1 i1 => ?_⟩
    split at e
    · rename_i heq
      simp only at heq
      subst heq
      cases i1 with | dat i1 => cases i1; exact ⟨true, rfl, iteT ⟨F, ι1, Γ, M1, s, M', w.next x1 r1, e, fun v2 ι2 H2 x2 r2 i2 => k v2 ι2 H2 (x1.trans x2) r2 i2⟩⟩
    · rename_i heq
      simp only at heq
      subst heq
      cases e
      cases i1 with | dat i1 => cases i1; exact ⟨false, rfl, iteF (k _ ι1 H1 x1 r1 (.dat (.bl false)))⟩
    · cases e
theorem pd_or (ha : PD X a fa) (hb : PD X (.BoolOp .Or (b :: rest) pos) fb) : PD X (.BoolOp .Or (a :: b :: rest) pos) (dOr fa fb) :=
  PE.weak (pe_or ha hb) fun σ H Q ⟨F, ι, Γ, M, s, M', w, e, k⟩ => by
    obtain ⟨⟨sa, M1⟩, e1, e⟩ := Option.bind_eq_some_iff.mp e
    refine ⟨F, ι, Γ, M, sa, M1, w, e1, fun v ι1 H1 x1 r1 i1 => ?_⟩
    split at e
    · rename_i heq
      simp only at heq
      subst heq
      cases i1 with | dat i1 => cases i1; exact ⟨false, rfl, iteF ⟨F, ι1, Γ, M1, s, M', w.next x1 r1, e, fun v2 ι2 H2 x2 r2 i2 => k v2 ι2 H2 (x1.trans x2) r2 i2⟩⟩
    · rename_i heq
      simp only at heq
      subst heq
      cases e
      cases i1 with | dat i1 => cases i1; exact ⟨true, rfl, iteT (k _ ι1 H1 x1 r1 (.dat (.bl true)))⟩
    · cases e
def oNot : D → Option OR := fun d => (truD d).map fun b => .dat (.bool (!b))
theorem truV_of {c : Ct} {ι : List Addr} {H : Hp} {v : V} {d : D} {b : Bool} (R : Rdb c ι H v d) (e3 : truD d = some b) : TruV c.K v H b := by
  cases d with
  | none => cases R.non; cases e3; rfl
  | bool y => cases R.bl; cases e3; rfl
  | int y => cases R.int; cases e3; rfl
  | str y =>
    cases R.str
    unfold truD at e3
    simp only at e3
    split at e3
    · rename_i hl
      cases e3
      exact ⟨lim_le hl, rfl⟩
    · cases e3
  | list xs =>
    obtain ⟨p, ys, rfl, hp, hi⟩ := R.lst
    cases e3
    exact .inl ⟨ys, .of hp, by rw [isEmpty_len hi.length]⟩
  | tuple xs =>
    obtain ⟨p, ys, rfl, hp, hi, _⟩ := R.tup
    cases e3
    exact .inr (.inl ⟨ys, hp, by rw [isEmpty_len hi.length]⟩)
  | dict kvs => cases e3
theorem pd_not (ha : PD X a fa) : PD X (.UnaryOp .Not a pos) (dUn oNot fa) :=
  PE.weak (pe_notT ha) fun σ H Q ⟨F, ι, Γ, M, s, M', w, e, k⟩ => by
    obtain ⟨⟨sa, M1⟩, e1, e⟩ := Option.bind_eq_some_iff.mp e
    obtain ⟨da, e3, e⟩ := Option.bind_eq_some_iff.mp e
    obtain ⟨o, e5, e⟩ := Option.map_eq_some_iff.mp e
    obtain ⟨b, e6, rfl⟩ := Option.map_eq_some_iff.mp e5
    cases e
    refine ⟨F, ι, Γ, M, sa, M1, w, e1, fun v ι1 H1 x1 r1 i1 => ?_⟩
    exact ⟨b, truV_of (c := (ctx X).at F) (rdb_of r1 i1 e3) e6, k _ ι1 H1 x1 r1 (.dat (.bl _))⟩
theorem pd_ifExp {c : Expr} (hc : PDT X c ta) (ha : PD X a fa) (hb : PD X b fb) : PD X (.IfExp c a b pos) (dIf ta fa fb) :=
  PE.weak (pe_ifExp hc ha hb) fun σ H Q ⟨F, ι, Γ, M, s, M', w, e, k⟩ => by
    obtain ⟨⟨t, M1⟩, e1, e⟩ := Option.bind_eq_some_iff.mp e
    refine ⟨F, ι, Γ, M, t, M1, w, e1, fun ι1 H1 x1 r1 => ?_⟩
    cases t with
    | true =>
      rw [if_pos rfl] at e
      exact iteT ⟨F, ι1, Γ, M1, s, M', w.next x1 r1, e, fun v2 ι2 H2 x2 r2 i2 => k v2 ι2 H2 (x1.trans x2) r2 i2⟩
    | false =>
      rw [if_neg Bool.false_ne_true] at e
      exact iteF ⟨F, ι1, Γ, M1, s, M', w.next x1 r1, e, fun v2 ι2 H2 x2 r2 i2 => k v2 ι2 H2 (x1.trans x2) r2 i2⟩
theorem rd_chain {r r' : R2} {g g' : D → D → Option OR} (hr : R2D (ctx X) r g) (hr' : R2D (ctx X) r' g') {σ : L2.St} {H : Hp} {Q : VK} (q : rdE (ctx X) (dChain g g' fa fb fd) σ H Q) : tChain r r' (rdE (ctx X) fa) (rdE (ctx X) fb) (rdE (ctx X) fd) σ H Q := by
  obtain ⟨F, ι, Γ, M, s, M', w, e, k⟩ := q
  obtain ⟨⟨sa, M1⟩, e1, e⟩ := Option.bind_eq_some_iff.mp e
  obtain ⟨⟨sb, M2⟩, e2, e⟩ := Option.bind_eq_some_iff.mp e
  obtain ⟨da, e3, e⟩ := Option.bind_eq_some_iff.mp e
  obtain ⟨db, e4, e⟩ := Option.bind_eq_some_iff.mp e
  obtain ⟨o, e5, e⟩ := Option.bind_eq_some_iff.mp e
  refine ⟨F, ι, Γ, M, sa, M1, w, e1, fun v ι1 H1 x1 r1 i1 => ?_⟩
  refine ⟨F, ι1, Γ, M1, sb, M2, w.next x1 r1, e2, fun u ι2 H2 x2 r2 i2 => ?_⟩
  refine hr F ι2 H2 M2 false v u da db o _ r2 (rdb_of r2 (i1.mono x2) e3) (rdb_of r2 i2 e4) e5 fun v' ι3 H3 x3 r3 i3 => ?_
  split at e
  · cases i3 with
    | dat i3 =>
      cases i3
      obtain ⟨⟨sd, M4⟩, e6, e⟩ := Option.bind_eq_some_iff.mp e
      obtain ⟨db', e7, e⟩ := Option.bind_eq_some_iff.mp e
      obtain ⟨dd, e8, e⟩ := Option.bind_eq_some_iff.mp e
      obtain ⟨o', e9, e⟩ := Option.map_eq_some_iff.mp e
      refine ⟨true, rfl, iteT ?_⟩
      refine ⟨F, ι3, Γ, M2, sd, M4, (w.next (x1.trans x2) r2).next x3 r3, e6, fun v4 ι4 H4 x4 r4 i4 => ?_⟩
      refine hr' F ι4 H4 M4 false u v4 db' dd o' Q r4 (rdb_of r4 ((i2.mono x3).mono x4) e7) (rdb_of r4 i4 e8) e9 fun v5 ι5 H5 x5 r5 i5 => ?_
      simp only [e] at r5 i5
      exact k v5 ι5 H5 (x1.trans (x2.trans (x3.trans (x4.trans x5)))) r5 i5
  · cases e
    cases i3 with
    | dat i3 =>
      cases i3
      exact ⟨false, rfl, iteF (k _ ι3 H3 (x1.trans (x2.trans x3)) r3 (.dat (.bl false)))⟩
  · cases e
theorem pd_chain {op op' : CmpOp} {r r' : R2} {g g' : D → D → Option OR} (ho : OpR X (compareOp op) r) (hr : R2D (ctx X) r g) (ho' : OpR X (compareOp op') r') (hr' : R2D (ctx X) r' g') (ha : PD X a fa) (hb : PD X b fb) (hd : PD X d fd)
    (hm : lastMarks [op, op'] [b, d] = false := by with_unfolding_all rfl) : PD X (.Compare a [op, op'] [b, d] pos) (dChain g g' fa fb fd) :=
  PE.weak (pe_chain ho ho' ha hb hd hm) fun _ _ _ => rd_chain hr hr'
theorem pdt_chain {op op' : CmpOp} {r r' : R2} {g g' : D → D → Option OR} (ho : OpR X (compareOp op) r) (hr : R2D (ctx X) r g) (ho' : OpR X (compareOp op') r') (hr' : R2D (ctx X) r' g') (ha : PD X a fa) (hb : PD X b fb) (hd : PD X d fd)
    (hm : lastMarks [op, op'] [b, d] = false := by with_unfolding_all rfl) : PDT X (.Compare a [op, op'] [b, d] pos) (tVal (dChain g g' fa fb fd)) :=
  PT.weak (pt_chain ho ho' ha hb hd hm) fun σ H Q q => rd_chain hr hr' (rd_val q)
end

theorem R2D.or {c : Ct} {r r' : R2} {g g' : D → D → Option OR} (h : R2D c r g) (h' : R2D c r' g') : R2D c (fun x y H Q => r x y H Q ∨ r' x y H Q) (fun d e => match g d e with
    | some o => some o
    | none => g' d e) := fun F ι H M m x y dx dy o Q rp rx ry e k => by
  dsimp only at e
  split at e
  · rename_i o' h1
    cases e
    exact .inl (h F ι H M m x y dx dy _ Q rp rx ry h1 k)
  · exact .inr (h' F ι H M m x y dx dy _ Q rp rx ry e k)
def gI (C : Int → Int → Bool) (g : Int → Int → D) : D → D → Option OR
  | .int i, .int j => if C i j then some (.dat (g i j)) else none
  | _, _ => none
section
variable {c : Ct}
theorem r2_I {C : Int → Int → Prop} {Cb : Int → Int → Bool} {g : Int → Int → Int} (h : ∀ i j, Cb i j = true → C i j) : R2D c (rI C fun i j => .int (g i j)) (gI Cb fun i j => .int (g i j)) := fun F ι H M m x y dx dy o Q rp rx ry e k => by
  unfold gI at e
  split at e
  · split at e
    · rename_i hc
      cases e
      cases rx.int
      cases ry.int
      exact ⟨_, _, rfl, rfl, h _ _ hc, k.dat rp (.int _)⟩
    · cases e
  · cases e
theorem r2_I0 {g : Int → Int → Int} : R2D c (rI0 fun i j => .int (g i j)) (gI (fun _ _ => true) fun i j => .int (g i j)) := fun F ι H M m x y dx dy o Q rp rx ry e k => by
  unfold gI at e
  split at e
  · cases e
    cases rx.int
    cases ry.int
    exact ⟨_, _, rfl, rfl, k.dat rp (.int _)⟩
  · cases e
def oAdd : D → D → Option OR
  | .int i, .int j => some (.dat (.int (i + j)))
  | .str x, .str y => if x.length + y.length ≤ LIM then some (.dat (.str (x ++ y))) else none
  | .tuple xs, .tuple ys => if xs.length + ys.length ≤ LIM then some (.dat (.tuple (xs ++ ys))) else none
  | .list xs, .list ys => if xs.length + ys.length ≤ LIM then some (.new (.list (xs ++ ys))) else none
  | _, _ => none
def rAddAll (c : Ct) : R2 := fun x y H Q => rI0 (fun i j => .int (i + j)) x y H Q ∨ (∃ i j, x = .str i ∧ y = .str j ∧ i.length + j.length ≤ sizeLine ∧ Q (.str (i ++ j)) H) ∨ rCatA c.K x y H Q ∨ rCat x y H Q
theorem op_addAll {X : Cx} : OpR X (binaryOp .Add) (rAddAll (ctx X)) := op_add.or (op_add_str.or (op_catA.or op_cat))
theorem r2_add : R2D c (rAddAll c) oAdd := fun F ι H M m x y dx dy o Q rp rx ry e k => by
  unfold oAdd at e
  split at e
  · cases e
    cases rx.int
    cases ry.int
    exact .inl ⟨_, _, rfl, rfl, k.dat rp (.int _)⟩
  · split at e
    · rename_i hl
      cases e
      cases rx.str
      cases ry.str
      exact .inr (.inl ⟨_, _, rfl, rfl, lim_le hl, k.dat rp (.str _)⟩)
    · cases e
  · split at e
    · rename_i ds es hl
      cases e
      obtain ⟨p, xs, rfl, hp, ip, dp⟩ := rx.tup
      obtain ⟨q, ys, rfl, hq, iq, dq⟩ := ry.tup
      refine .inr (.inr (.inl ⟨p, q, xs, ys, rfl, rfl, hp, hq, by rw [ip.length, iq.length]; exact lim_le hl, fun hx => ?_, fun hx hy => ?_, fun hx hy t ht => ?_⟩))
      · subst hx
        cases ip
        exact k.dat rp dq
      · subst hy
        cases iq
        rw [List.append_nil] at k
        exact k.dat rp dp
      · exact k.newT rp (ip.append iq) ht
    · cases e
  · split at e
    · rename_i ds es hl
      cases e
      obtain ⟨p, xs, rfl, hp, ip⟩ := rx.lst
      obtain ⟨q, ys, rfl, hq, iq⟩ := ry.lst
      exact .inr (.inr (.inr ⟨p, q, xs, ys, rfl, rfl, hp, hq, by rw [ip.length, iq.length]; exact lim_le hl, fun t ht => k.newL rp (ip.append iq) ht⟩))
    · cases e
  · cases e
def oSub : D → D → Option OR := gI (fun _ _ => true) fun i j => .int (i - j)
def okMul (i j : Int) : Bool := decide (-(2 ^ 64) < i ∧ i < 2 ^ 64) || decide (-(2 ^ 64) < j ∧ j < 2 ^ 64)
theorem okMul_c {i j : Int} (h : okMul i j = true) : CMul i j := by
  unfold okMul at h
  rw [Bool.or_eq_true, decide_eq_true_eq, decide_eq_true_eq] at h
  exact h
def oMul : D → D → Option OR
  | .int i, .int j => if okMul i j then some (.dat (.int (i * j))) else none
  | .list xs, .int k => if decide (-1000000 ≤ k) && decide (k ≤ 1000000) && decide (xs.length * k.toNat ≤ LIM) then some (.new (.list (List.replicate k.toNat xs).flatten)) else none
  | .str z, .int k => if z.length ≤ 16 ∧ -1000000 ≤ k ∧ k ≤ 1000000 then some (.dat (.str (Txt.mul z k))) else none
  | _, _ => none
/-- a short text, some times -/
def rTimes : R2 := fun x y H Q => ∃ z k, x = .str z ∧ y = .int k ∧ z.length ≤ 16 ∧ -1000000 ≤ k ∧ k ≤ 1000000 ∧ Q (.str (Txt.mul z k)) H
theorem op_times {X : Cx} : OpR X (binaryOp .Mult) rTimes := by
  intro pins s σ H x y v u Q I rx ry ⟨z, k, e1, e2, h1, h2, h3, q⟩
  subst e1 e2
  obtain ⟨t, rfl⟩ := rx
  obtain ⟨t', rfl⟩ := ry
  exact SB.mul (mulOk_of 16 1048576 h1 (by omega) (by omega) (by decide) (by decide)) fun t2 k2 => ⟨.str (Txt.mul z k), H, I.tok _, ⟨_, rfl⟩, q⟩
def rMulAll (c : Ct) : R2 := fun x y H Q => rI CMul (fun i j => .int (i * j)) x y H Q ∨ rRep x y H Q ∨ rTimes x y H Q
theorem op_mulAll {X : Cx} : OpR X (binaryOp .Mult) (rMulAll (ctx X)) := op_mul.or (op_rep.or op_times)
theorem r2_mul : R2D c (rMulAll c) oMul := fun F ι H M m x y dx dy o Q rp rx ry e k => by
  unfold oMul at e
  split at e
  · split at e
    · rename_i hl
      cases e
      cases rx.int
      cases ry.int
      exact .inl ⟨_, _, rfl, rfl, okMul_c hl, k.dat rp (.int _)⟩
    · cases e
  · split at e
    · rename_i ds n hl
      cases e
      simp only [Bool.and_eq_true, decide_eq_true_eq] at hl
      obtain ⟨p, xs, rfl, hp, ip⟩ := rx.lst
      cases ry.int
      refine .inr (.inl ⟨p, _, xs, rfl, rfl, hp, by omega, by omega, by rw [ip.length]; exact lim_le hl.2, fun t ht => k.newL rp (ip.rep _) ht⟩)
    · cases e
  · split at e
    · rename_i z n hl
      cases e
      cases rx.str
      cases ry.int
      exact .inr (.inr ⟨z, _, rfl, rfl, hl.1, hl.2.1, hl.2.2, k.dat rp (.str _)⟩)
    · cases e
  · cases e
def oDiv : D → D → Option OR := gI (fun i j => (decide (j ≠ 0) && decide (j.natAbs < 1073741824)) || (decide (0 < j) && decide (j.natAbs.log2 < 9000))) fun i j => .int (i.fdiv j)
/-- both ranges of a divisor -/
def CDivA (i j : Int) : Prop := CDivN i j ∨ CDivW i j
theorem op_fdivA {X : Cx} : OpR X (binaryOp .FloorDiv) (rI CDivA fun i j => .int (i.fdiv j)) := by
  intro pins s σ H x y v u Q I rx ry ⟨i, j, e1, e2, c, q⟩
  rcases c with c | c
  · exact op_fdivN pins s σ H x y v u Q I rx ry ⟨i, j, e1, e2, c, q⟩
  · exact op_fdivW pins s σ H x y v u Q I rx ry ⟨i, j, e1, e2, c, by
      have h := c.1
      show Q (.int (i / j)) H
      rw [← Int.fdiv_eq_ediv_of_nonneg i (by omega)]
      exact q⟩
def oMod : D → D → Option OR := gI (fun i j => decide (j ≠ 0)) fun i j => .int (i.fmod j)
def oPow : D → D → Option OR := gI (fun i j => decide (0 ≤ j) && decide (j ≤ 1000000) && decide (i.natAbs < 2 ^ 64)) fun i j => .int (i ^ j.toNat)
theorem r2_sub : R2D c (rI0 fun i j => .int (i - j)) oSub := r2_I0
theorem r2_div : R2D c (rI CDivA fun i j => .int (i.fdiv j)) oDiv := r2_I fun i j h => by
  rw [Bool.or_eq_true, Bool.and_eq_true, Bool.and_eq_true, decide_eq_true_eq, decide_eq_true_eq, decide_eq_true_eq, decide_eq_true_eq] at h
  exact h
theorem r2_mod : R2D c (rI (fun _ j => j ≠ 0) fun i j => .int (i.fmod j)) oMod := r2_I fun i j h => of_decide_eq_true h
theorem r2_pow : R2D c (rI CPow fun i j => .int (i ^ j.toNat)) oPow := r2_I fun i j h => by
  simp only [Bool.and_eq_true, decide_eq_true_eq] at h
  exact ⟨h.1.1, h.1.2, h.2⟩
def oNeg : D → Option OR
  | .int i => some (.dat (.int (-i)))
  | _ => none
theorem r1_neg : R1D c (rU fun i => .int (-i)) oNeg := fun F ι H M m x dx o Q rp rx e k => by
  unfold oNeg at e
  split at e
  · cases e
    cases rx.int
    exact ⟨_, rfl, k.dat rp (.int _)⟩
  · cases e
end
section
variable {X : Cx} {a b : Expr} {fa fb : DE} {pos : Pos}
theorem pd_add {m : Bool} (ha : PD X a fa) (hb : PD X b fb) : PD X (.BinOp a .Add b pos) (dBin oAdd fa fb m) := pd_op op_addAll r2_add ha hb
theorem pd_sub (ha : PD X a fa) (hb : PD X b fb) : PD X (.BinOp a .Sub b pos) (dBin oSub fa fb) := pd_op op_sub r2_sub ha hb
theorem pd_mul {m : Bool} (ha : PD X a fa) (hb : PD X b fb) : PD X (.BinOp a .Mult b pos) (dBin oMul fa fb m) := pd_op op_mulAll r2_mul ha hb
theorem pd_div (ha : PD X a fa) (hb : PD X b fb) : PD X (.BinOp a .FloorDiv b pos) (dBin oDiv fa fb) := pd_op op_fdivA r2_div ha hb
theorem pd_mod (ha : PD X a fa) (hb : PD X b fb) : PD X (.BinOp a .Mod b pos) (dBin oMod fa fb) := pd_op op_modN r2_mod ha hb
theorem pd_pow (ha : PD X a fa) (hb : PD X b fb) : PD X (.BinOp a .Pow b pos) (dBin oPow fa fb) := pd_op op_pow r2_pow ha hb
theorem pd_neg (ha : PD X a fa) : PD X (.UnaryOp .USub a pos) (dUn oNeg fa) := pd_un un_neg r1_neg ha
end

def okCmp (d e : D) : Bool := PySem.W.alike d e && (match d with | .none => false | _ => true) && d.plain && e.plain && decide (d.depth ≤ 60)
def okEq (d e : D) : Bool := d.plain && e.plain && decide (min d.depth e.depth ≤ 60)
def oEq : D → D → Option OR := fun d e => if okEq d e then some (.dat (.bool (PyData.eqv d e))) else none
def oNe : D → D → Option OR := fun d e => if okEq d e then some (.dat (.bool (!PyData.eqv d e))) else none
def oLt : D → D → Option OR := fun d e => if okCmp d e then some (.dat (.bool (PySem.W.dataLt d e))) else none
def oGt : D → D → Option OR := fun d e => if okCmp d e then some (.dat (.bool (PySem.W.dataLt e d))) else none
def oLe : D → D → Option OR := fun d e => if okCmp d e then some (.dat (.bool (!PySem.W.dataLt e d))) else none
def oGe : D → D → Option OR := fun d e => if okCmp d e then some (.dat (.bool (!PySem.W.dataLt d e))) else none
def rCmpD (K : PySem.W.Frag) (ok : D → D → Bool) (g : D → D → Bool) : R2 := fun x y H Q => ∃ d e, Dp K H x d ∧ Dp K H y e ∧ ok d e = true ∧ Q (.bl (g d e)) H
section
variable {X : Cx}
theorem op_cmpD {op : CmpOp} {ok : D → D → Bool} {g : D → D → Bool} (h : ∀ (s : Shared) (v u : Value) (d e : D) (as bs : List Addr) (Q : Value → Shared → Prop), Reads s.heap v d as → Reads s.heap u e bs → ok d e = true → Q (.bool (g d e)) s → wpAny (model X.prog X.w) X.A (compareOp op v u) Q X.xe s) :
    OpR X (compareOp op) (rCmpD X.K ok g) := by
  intro pins s σ H x y v u Q I rx ry q
  obtain ⟨d, e, hd, he, ho, q⟩ := q
  obtain ⟨as, r1⟩ := Dp.reads I d x v hd rx
  obtain ⟨bs, r2⟩ := Dp.reads I e y u he ry
  exact h s v u d e as bs _ r1 r2 ho ⟨.bl _, H, I, rfl, q⟩
theorem okEq_d {A : Around} {d e : D} (hu : A.units + 64 < cLine) (h : okEq d e = true) : d.plain = true ∧ e.plain = true ∧ A.units + min d.depth e.depth < cLine := by
  unfold okEq at h
  simp only [Bool.and_eq_true, decide_eq_true_eq] at h
  exact ⟨h.1.1, h.1.2, by omega⟩
theorem okCmp_d {A : Around} {d e : D} (hu : A.units + 64 < cLine) (h : okCmp d e = true) : PySem.W.alike d e = true ∧ d ≠ .none ∧ d.plain = true ∧ e.plain = true ∧ A.units + min d.depth e.depth < cLine := by
  unfold okCmp at h
  simp only [Bool.and_eq_true, decide_eq_true_eq] at h
  refine ⟨h.1.1.1.1, ?_, h.1.1.2, h.1.2, by omega⟩
  intro z
  rw [z] at h
  simp at h
theorem op_eqA (hu : X.A.units + 64 < cLine) : OpR X (compareOp .Eq) (rCmpD X.K okEq PyData.eqv) := op_cmpD fun s v u d e as bs Q r1 r2 ho q => let ⟨h1, h2, h3⟩ := okEq_d hu ho; SeqAt.eq_plain r1 r2 h1 h2 h3 q
theorem op_neA (hu : X.A.units + 64 < cLine) : OpR X (compareOp .NotEq) (rCmpD X.K okEq fun d e => !PyData.eqv d e) := op_cmpD fun s v u d e as bs Q r1 r2 ho q => let ⟨h1, h2, h3⟩ := okEq_d hu ho; SeqAt.ne_plain r1 r2 h1 h2 h3 q
theorem op_ltA (hu : X.A.units + 64 < cLine) : OpR X (compareOp .Lt) (rCmpD X.K okCmp PySem.W.dataLt) := op_cmpD fun s v u d e as bs Q r1 r2 ho q => let ⟨h1, h2, _, _, h3⟩ := okCmp_d hu ho; PySem.W.lt_data r1 r2 h1 h2 h3 q
theorem op_gtA (hu : X.A.units + 64 < cLine) : OpR X (compareOp .Gt) (rCmpD X.K okCmp fun d e => PySem.W.dataLt e d) := op_cmpD fun s v u d e as bs Q r1 r2 ho q => let ⟨h1, h2, _, _, h3⟩ := okCmp_d hu ho; PySem.W.gt_data r1 r2 h1 h2 h3 q
theorem op_leA (hu : X.A.units + 64 < cLine) : OpR X (compareOp .LtE) (rCmpD X.K okCmp fun d e => !PySem.W.dataLt e d) := op_cmpD fun s v u d e as bs Q r1 r2 ho q => let ⟨h1, h2, _, _, h3⟩ := okCmp_d hu ho; PySem.W.le_data r1 r2 h1 h2 h3 q
theorem op_geA (hu : X.A.units + 64 < cLine) : OpR X (compareOp .GtE) (rCmpD X.K okCmp fun d e => !PySem.W.dataLt d e) := op_cmpD fun s v u d e as bs Q r1 r2 ho q => let ⟨h1, h2, _, _, h3⟩ := okCmp_d hu ho; PySem.W.ge_data r1 r2 h1 h2 h3 q
end
theorem r2_cmpD {c : Ct} {ok : D → D → Bool} {g : D → D → Bool} (h : ∀ d e, ok d e = true → d.plain = true ∧ e.plain = true) : R2D c (rCmpD c.K ok g) (fun d e => if ok d e then some (.dat (.bool (g d e))) else none) := fun F ι H M m x y dx dy o Q rp rx ry e k => by
  dsimp only at e
  split at e
  · rename_i hc
    cases e
    obtain ⟨h1, h2⟩ := h _ _ hc
    exact ⟨dx, dy, rx.dp h1, ry.dp h2, hc, k.dat rp (.bl _)⟩
  · cases e
theorem okEq_p : ∀ d e, okEq d e = true → d.plain = true ∧ e.plain = true := fun d e h => by
  unfold okEq at h
  simp only [Bool.and_eq_true, decide_eq_true_eq] at h
  exact ⟨h.1.1, h.1.2⟩
theorem okCmp_p : ∀ d e, okCmp d e = true → d.plain = true ∧ e.plain = true := fun d e h => by
  unfold okCmp at h
  simp only [Bool.and_eq_true, decide_eq_true_eq] at h
  exact ⟨h.1.1.2, h.1.2⟩
/-- an operator's two facts in one -/
structure CmpOk (X : Cx) (op : CmpOp) (g : D → D → Option OR) : Prop where
  ex : ∃ r, OpR X (compareOp op) r ∧ R2D (ctx X) r g
section
variable {X : Cx}
theorem c_eq {k : Nat} (hr : Room k X.A) : CmpOk X .Eq oEq := ⟨_, op_eqA hr.units, r2_cmpD okEq_p⟩
theorem c_ne {k : Nat} (hr : Room k X.A) : CmpOk X .NotEq oNe := ⟨_, op_neA hr.units, r2_cmpD okEq_p⟩
theorem c_lt {k : Nat} (hr : Room k X.A) : CmpOk X .Lt oLt := ⟨_, op_ltA hr.units, r2_cmpD okCmp_p⟩
theorem c_gt {k : Nat} (hr : Room k X.A) : CmpOk X .Gt oGt := ⟨_, op_gtA hr.units, r2_cmpD okCmp_p⟩
theorem c_le {k : Nat} (hr : Room k X.A) : CmpOk X .LtE oLe := ⟨_, op_leA hr.units, r2_cmpD okCmp_p⟩
theorem c_ge {k : Nat} (hr : Room k X.A) : CmpOk X .GtE oGe := ⟨_, op_geA hr.units, r2_cmpD okCmp_p⟩
def oIs : D → D → Option OR
  | .bool a, .bool b => some (.dat (.bool (decide (a = b))))
  | .none, .none => some (.dat (.bool true))
  | .int _, .none => some (.dat (.bool false))
  | .str _, .none => some (.dat (.bool false))
  | .tuple _, .none => some (.dat (.bool false))
  | _, _ => none
def oIsNot : D → D → Option OR
  | .bool a, .bool b => some (.dat (.bool (!decide (a = b))))
  | .none, .none => some (.dat (.bool false))
  | .int _, .none => some (.dat (.bool true))
  | .str _, .none => some (.dat (.bool true))
  | .tuple _, .none => some (.dat (.bool true))
  | _, _ => none
theorem c_is : CmpOk X .Is oIs := ⟨_, op_isBl.or op_isN, fun F ι H M m x y dx dy o Q rp rx ry e k => by
  unfold oIs at e
  split at e
  · cases e
    cases rx.bl
    cases ry.bl
    exact .inl ⟨_, _, rfl, rfl, k.dat rp (.bl _)⟩
  · cases e
    cases rx.non
    cases ry.non
    exact .inr ⟨rfl, k.dat rp (.bl true)⟩
  · cases e
    cases rx.int
    cases ry.non
    exact .inr ⟨rfl, k.dat rp (.bl false)⟩
  · cases e
    cases rx.str
    cases ry.non
    exact .inr ⟨rfl, k.dat rp (.bl false)⟩
  · cases e
    obtain ⟨p, xs, rfl, _⟩ := rx.tup
    cases ry.non
    exact .inr ⟨rfl, k.dat rp (.bl false)⟩
  · cases e⟩
theorem c_isnot : CmpOk X .IsNot oIsNot := ⟨_, op_notBl.or op_notN, fun F ι H M m x y dx dy o Q rp rx ry e k => by
  unfold oIsNot at e
  split at e
  · cases e
    cases rx.bl
    cases ry.bl
    exact .inl ⟨_, _, rfl, rfl, k.dat rp (.bl _)⟩
  · cases e
    cases rx.non
    cases ry.non
    exact .inr ⟨rfl, k.dat rp (.bl false)⟩
  · cases e
    cases rx.int
    cases ry.non
    exact .inr ⟨rfl, k.dat rp (.bl true)⟩
  · cases e
    cases rx.str
    cases ry.non
    exact .inr ⟨rfl, k.dat rp (.bl true)⟩
  · cases e
    obtain ⟨p, xs, rfl, _⟩ := rx.tup
    cases ry.non
    exact .inr ⟨rfl, k.dat rp (.bl true)⟩
  · cases e⟩
variable {a b d : Expr} {fa fb fd : DE} {pos : Pos}
theorem pd_cm {op : CmpOp} {g : D → D → Option OR} (h : CmpOk X op g) (ha : PD X a fa) (hb : PD X b fb) (hm : behindInMarks op b = false := by first | exact nomark _ | rfl) : PD X (.Compare a [op] [b] pos) (dBin g fa fb) := let ⟨_, h1, h2⟩ := h.ex; pd_cmp h1 h2 ha hb hm
theorem pdt_cm {op : CmpOp} {g : D → D → Option OR} (h : CmpOk X op g) (ha : PD X a fa) (hb : PD X b fb) (hm : behindInMarks op b = false := by first | exact nomark _ | rfl) : PDT X (.Compare a [op] [b] pos) (tVal (dBin g fa fb)) := let ⟨_, h1, h2⟩ := h.ex; pdt_cmp h1 h2 ha hb hm
theorem pd_ch {op op' : CmpOp} {g g' : D → D → Option OR} (h : CmpOk X op g) (h' : CmpOk X op' g') (ha : PD X a fa) (hb : PD X b fb) (hd : PD X d fd)
    (hm : lastMarks [op, op'] [b, d] = false := by with_unfolding_all rfl) : PD X (.Compare a [op, op'] [b, d] pos) (dChain g g' fa fb fd) := let ⟨_, h1, h2⟩ := h.ex; let ⟨_, h3, h4⟩ := h'.ex; pd_chain h1 h2 h3 h4 ha hb hd hm
theorem pdt_ch {op op' : CmpOp} {g g' : D → D → Option OR} (h : CmpOk X op g) (h' : CmpOk X op' g') (ha : PD X a fa) (hb : PD X b fb) (hd : PD X d fd)
    (hm : lastMarks [op, op'] [b, d] = false := by with_unfolding_all rfl) : PDT X (.Compare a [op, op'] [b, d] pos) (tVal (dChain g g' fa fb fd)) := let ⟨_, h1, h2⟩ := h.ex; let ⟨_, h3, h4⟩ := h'.ex; pdt_chain h1 h2 h3 h4 ha hb hd hm
end
end EL
namespace EL
open PySem PySem.Spec PyProof.Rows L2

section
variable {X : Cx} {pins : List (Addr × Obj)} {σ : L2.St} {H : Hp} {s : Shared} {F ι : List Addr}
mutual
theorem nested (I : Inv X pins σ H s) : ∀ (d : D) (v : V) (u : Value), isKey d = true → IsD ((ctx X).at F) ι H v d → RelV v u → NestedIs s.heap (nk d) u
  | .none, _, _, _, h, r => by
    cases h
    cases r
    exact .none
  | .bool _, _, _, k, _, _ => by simp [isKey] at k
  | .int i, _, _, _, h, r => by
    cases h
    obtain ⟨t, rfl⟩ := r
    exact .int i t
  | .str x, _, _, _, h, r => by
    cases h
    obtain ⟨t, rfl⟩ := r
    exact .text x t
  | .tuple ds, _, _, k, h, r => by
    cases h with
    | tup h t =>
      cases r
      have k' : isKeys ds = true := by simpa [isKey] using k
      rw [nk]
      rcases h with ⟨h, _⟩ | ⟨o, its, n, h1, h2, h3, _, h5⟩
      · obtain ⟨_, its, rv, o, e1, e2, n, e3⟩ := (show ObjOk X.prog X.w H s.heap _ (.tup _) from I.hok _ _ h)
        exact .tup e1 e2 e3 (nestedAll I ds _ its k' t rv)
      · exact .tup (I.kIn _ _ h1) h2 h3 (nestedAll I ds _ _ k' t h5)
  | .list _, _, _, k, _, _ => by simp [isKey] at k
  | .dict _, _, _, k, _, _ => by simp [isKey] at k
theorem nestedAll (I : Inv X pins σ H s) : ∀ (ds : List D) (vs : List V) (us : List Value), isKeys ds = true → IsDs ((ctx X).at F) ι H vs ds → Vals vs us → NestedAll s.heap (nks ds) us
  | [], _, _, _, h, r => by
    cases h
    cases r
    exact .nil
  | d :: ds, _, _, k, h, r => by
    rw [isKeys, Bool.and_eq_true] at k
    cases h with
    | cons h t =>
      cases r with
      | cons r rr =>
        rw [nks]
        exact .cons (nested I d _ _ k.1 h r) (nestedAll I ds _ _ k.2 t rr)
end
theorem key_is (I : Inv X pins σ H s) {d : D} {q : Addr} (ok : keyOk d = true) (h : IsD ((ctx X).at F) ι H (.ref q) d) : (nestedKind X.prog X.w).is s.heap (nk d) q := by
  unfold keyOk at ok
  split at ok
  · rename_i ds
    rw [Bool.and_eq_true, decide_eq_true_eq] at ok
    exact ⟨nested I (.tuple ds) _ _ (by rw [isKey]; exact ok.1) h rfl, by rw [nk]; exact ok.2⟩
  · cases ok
theorem key_ref {c : Ct} {d : D} {v : V} (ok : keyOk d = true) (h : IsD c ι H v d) : ∃ q, v = .ref q := by
  unfold keyOk at ok
  split at ok
  · cases h
    exact ⟨_, rfl⟩
  · cases ok
mutual
theorem nk_inj : ∀ (d e : D), isKey d = true → isKey e = true → nk d = nk e → d = e
  | .none, e, _, h2, h => by cases e <;> simp [nk, isKey] at h h2 ⊢
  | .bool _, _, h1, _, _ => by simp [isKey] at h1
  | .int i, e, _, h2, h => by cases e <;> simp [nk, isKey] at h h2 ⊢; exact h
  | .str i, e, _, h2, h => by cases e <;> simp [nk, isKey] at h h2 ⊢; exact h
  | .tuple ds, e, h1, h2, h => by
    cases e with
    | tuple es =>
      rw [nk, nk] at h
      rw [nks_inj ds es (by simpa [isKey] using h1) (by simpa [isKey] using h2) (NestedKey.tup.inj h)]
    | none => simp [nk] at h
    | bool => simp [isKey] at h2
    | int => simp [nk] at h
    | str => simp [nk] at h
    | list => simp [isKey] at h2
    | dict => simp [isKey] at h2
  | .list _, _, h1, _, _ => by simp [isKey] at h1
  | .dict _, _, h1, _, _ => by simp [isKey] at h1
theorem nks_inj : ∀ (ds es : List D), isKeys ds = true → isKeys es = true → nks ds = nks es → ds = es
  | [], [], _, _, _ => rfl
  | [], _ :: _, _, _, h => by simp [nks] at h
  | _ :: _, [], _, _, h => by simp [nks] at h
  | d :: ds, e :: es, h1, h2, h => by
    rw [isKeys, Bool.and_eq_true] at h1 h2
    rw [nks, nks] at h
    injection h with q1 q2
    rw [nk_inj d e h1.1 h2.1 q1, nks_inj ds es h1.2 h2.2 q2]
end

def dLook (kvs : List (D × D)) (k : D) : Option D := (kvs.find? fun p => decide (nk p.1 = nk k)).map (·.2)
def dHas (kvs : List (D × D)) (k : D) : Bool := kvs.any fun p => decide (nk p.1 = nk k)
def dPut (kvs : List (D × D)) (k v : D) : List (D × D) := if dHas kvs k then kvs.map (fun p => if nk p.1 = nk k then (p.1, v) else p) else kvs ++ [(k, v)]
theorem isNs_look {c : Ct} {k : D} : ∀ {xs : List (NestedKey × Addr × Value)} {kvs : List (D × D)}, IsNs c ι H xs kvs →
    (atKey xs (nk k)).isSome = dHas kvs k ∧ (∀ d, dLook kvs k = some d → ∃ q u v, atKey xs (nk k) = some (q, u) ∧ RelV v u ∧ IsD c ι H v d) ∧ (dLook kvs k = none → atKey xs (nk k) = none)
  | _, _, .nil => by
    refine ⟨rfl, fun d h => ?_, fun _ => rfl⟩
    cases h
  | (_, q, u) :: xs, (kd, d) :: kvs, .cons hk ok rv h t => by
    obtain ⟨h1, h2, h3⟩ := isNs_look (k := k) t
    by_cases e : nk kd = nk k
    · refine ⟨?_, fun d' h' => ?_, fun h' => ?_⟩
      · unfold atKey dHas
        simp [e]
      · unfold dLook at h'
        simp [e] at h'
        subst h'
        exact ⟨q, u, _, by unfold atKey; simp [e], rv, h⟩
      · unfold dLook at h'
        simp [e] at h'
    · refine ⟨?_, fun d' h' => ?_, fun h' => ?_⟩
      · unfold atKey dHas at h1 ⊢
        simpa [e] using h1
      · unfold dLook at h' h2
        simp only [List.find?_cons, decide_eq_false e] at h'
        obtain ⟨q', u', v', a1, a2, a3⟩ := h2 d' h'
        refine ⟨q', u', v', ?_, a2, a3⟩
        unfold atKey at a1 ⊢
        simp only [List.find?_cons, decide_eq_false e]
        exact a1
      · unfold dLook at h' h3
        simp only [List.find?_cons, decide_eq_false e] at h'
        have a1 := h3 h'
        unfold atKey at a1 ⊢
        simp only [List.find?_cons, decide_eq_false e]
        exact a1
theorem IsNs.app {c : Ct} : ∀ {xs ys : List (NestedKey × Addr × Value)} {kvs lvs : List (D × D)}, IsNs c ι H xs kvs → IsNs c ι H ys lvs → IsNs c ι H (xs ++ ys) (kvs ++ lvs)
  | _, _, _, _, .nil, s => s
  | _, _, _, _, .cons hk ok rv h t, s => .cons hk ok rv h (IsNs.app t s)
theorem IsNs.map_put {c : Ct} {k d : D} {v : V} {u : Value} (rv : RelV v u) (h : IsD c ι H v d) : ∀ {xs : List (NestedKey × Addr × Value)} {kvs : List (D × D)}, IsNs c ι H xs kvs →
    IsNs c ι H (xs.map (putAt (nk k) u)) (kvs.map fun p => if nk p.1 = nk k then (p.1, d) else p)
  | _, _, .nil => .nil
  | _, _, .cons (kd := kd) hk ok rv' h' t => by
    rw [List.map_cons, List.map_cons]
    unfold putAt
    by_cases e : nk kd = nk k
    · rw [if_pos e, if_pos e]
      exact .cons hk ok rv h (IsNs.map_put rv h t)
    · rw [if_neg e, if_neg e]
      exact .cons hk ok rv' h' (IsNs.map_put rv h t)
theorem IsNs.put {c : Ct} {xs : List (NestedKey × Addr × Value)} {kvs : List (D × D)} {k d : D} {q : Addr} {v : V} {u : Value} (t : IsNs c ι H xs kvs) (hk : IsD c ι H (.ref q) k) (ok : keyOk k = true) (rv : RelV v u) (h : IsD c ι H v d) :
    IsNs c ι H (storedH xs (nk k) q u) (dPut kvs k d) := by
  unfold storedH dPut
  rw [(isNs_look (k := k) t).1]
  split
  · exact t.map_put rv h
  · exact t.app (.cons hk ok rv h .nil)
theorem IsNs.len {c : Ct} : ∀ {xs : List (NestedKey × Addr × Value)} {kvs : List (D × D)}, IsNs c ι H xs kvs → xs.length = kvs.length
  | _, _, .nil => rfl
  | _, _, .cons _ _ _ _ t => by rw [List.length_cons, List.length_cons, IsNs.len t]
theorem IsNs.all {xs : List (NestedKey × Addr × Value)} {kvs : List (D × D)} (I : Inv X pins σ H s) (t : IsNs ((ctx X).at F) ι H xs kvs) : ∀ x ∈ xs, (nestedKind X.prog X.w).is s.heap x.1 x.2.1 := by
  induction xs generalizing kvs with
  | nil => intro x hx; cases hx
  | cons y ys ih =>
    cases t with
    | cons hk ok rv h t =>
      intro x hx
      rcases List.mem_cons.mp hx with e | e
      · subst e
        exact key_is I ok hk
      · exact ih t x e
theorem IsNs.keys {c : Ct} : ∀ {xs : List (NestedKey × Addr × Value)} {kvs : List (D × D)}, IsNs c ι H xs kvs → IsDs c ι H (xs.map fun x => .ref x.2.1) (kvs.map (·.1))
  | _, _, .nil => .nil
  | _, _, .cons hk _ _ _ t => .cons hk (IsNs.keys t)

/-- the dict as the library says it -/
theorem dn_at {a : Addr} {xs : List (NestedKey × Addr × Value)} {kvs : List (D × D)} (I : Inv X pins σ H s) (h : H a = some (.ext (DN ((ctx X).at F) a xs))) (t : IsNs ((ctx X).at F) ι H xs kvs) :
    (a == sysModules) = false ∧ xs.length ≤ sizeLine ∧ s.heap.DictOfH (nestedKind X.prog X.w) a xs := by
  obtain ⟨⟨h1, h2, o, es, ep, h3, h4, h5, h6, h7⟩, _⟩ := (show ObjOk X.prog X.w H s.heap a (.ext (DN ((ctx X).at F) a xs)) from I.hok a _ h)
  exact ⟨h1, h2, o, es, ep, h3, h4, h5, h6, t.all I, h7⟩
theorem dn_obj {c : Ct} {H' : Hp} {h' : Heap} {a : Addr} {xs : List (NestedKey × Addr × Value)} (h1 : (a == sysModules) = false) (h2 : xs.length ≤ sizeLine) (hd : h'.DictOfH (nestedKind c.P c.w) a xs) {P : Program} {w : World} : ObjOk P w H' h' a (.ext (DN c a xs)) := by
  obtain ⟨o, es, ep, h3, h4, h5, h6, _, h7⟩ := hd
  refine ⟨⟨h1, h2, o, es, ep, h3, h4, h5, h6, h7⟩, ⟨o, h3⟩, fun g1 g2 ⟨_, _, o', es', ep', e1, e2⟩ k => ⟨h1, h2, o', es', ep', k _ e1, e2⟩⟩
theorem stored_len (xs : List (NestedKey × Addr × Value)) (k : NestedKey) (q : Addr) (u : Value) : (storedH xs k q u).length ≤ xs.length + 1 := by
  unfold storedH
  split
  · rw [List.length_map]; omega
  · rw [List.length_append]; exact Nat.le_refl _
end

/-- a dict at the address, by its entries -/
structure DnAt (c : Ct) (ι : List Addr) (H : Hp) (a : Addr) (kvs : List (D × D)) : Prop where
  ex : ∃ xs, H a = some (.ext (DN c a xs)) ∧ IsNs c ι H xs kvs
def rIxN (c : Ct) : R2 := fun x y H Q => ∃ F ι a q kd d kvs, x = .ref a ∧ y = .ref q ∧ DnAt (c.at F) ι H a kvs ∧ IsD (c.at F) ι H (.ref q) kd ∧ keyOk kd = true ∧ dLook kvs kd = some d ∧ ∀ v, IsD (c.at F) ι H v d → Q v H
section
variable {X : Cx}
theorem room8 {k : Nat} (hr : Room k X.A) : (nestedKind X.prog X.w).room X.A ∧ (nestedKind X.prog X.w).room X.A.in1 := by
  have h := hr.units
  constructor
  · show X.A.units + 8 < cLine
    omega
  · show X.A.units + 1 + 8 < cLine
    omega
theorem getItem_any {pins : List (Addr × Obj)} {s : Shared} {σ : L2.St} {H : Hp} {a q : Addr} {kd d : D} {kvs : List (D × D)} {F ι : List Addr} {k : Nat} (hr : Room k X.A) (I : Inv X pins σ H s) (h : DnAt ((ctx X).at F) ι H a kvs) (hk : IsD ((ctx X).at F) ι H (.ref q) kd) (ok : keyOk kd = true) (e : dLook kvs kd = some d)
    {Q : Value → Shared → Prop} (hq : ∀ v u s', Inv X pins σ H s' → RelV v u → IsD ((ctx X).at F) ι H v d → Q u s') : ∃ w', s.TypeIs (.ref a) "dict" ∧ wpAny (model X.prog X.w) X.A (getItem (.ref a) (.ref q)) (fun r s' => r = w' ∧ Q r s') X.xe s := by
  obtain ⟨xs, ha, t⟩ := h.ex
  obtain ⟨_, _, hd⟩ := dn_at I ha t
  obtain ⟨b, u, v, e1, rv, hv⟩ := (isNs_look (k := kd) t).2.1 d e
  exact ⟨u, hd.typeIs, wpAny_getItem_heap (room8 hr).2 (key_is I ok hk) hd e1 ⟨rfl, hq v u _ (I.tok _) rv hv⟩⟩
theorem ix_dn {k : Nat} (hr : Room k X.A) : IxR X (rIxN (ctx X)) := by
  intro value slice pins s σ H x y v u Q I rx ry h hs
  obtain ⟨F, ι, a, q, kd, d, kvs, rfl, rfl, hd, hk, ok, e, hq⟩ := h
  cases rx
  cases ry
  obtain ⟨w', ht, hg⟩ := getItem_any (Q := EP X pins σ Q) hr I hd hk ok e fun v u s' I' rv hv => ⟨v, H, I', rv, hq v hv⟩
  exact subscriptTail_builtinR ht PySem.F.slot_dict_getitem.lookup hg hs
/-- k in d, k not in d -/
def rInN (c : Ct) (neg : Bool) : R2 := fun x y H Q => ∃ F ι a q kd kvs, x = .ref q ∧ y = .ref a ∧ DnAt (c.at F) ι H a kvs ∧ IsD (c.at F) ι H (.ref q) kd ∧ keyOk kd = true ∧ Q (.bl (if neg then !dHas kvs kd else dHas kvs kd)) H
theorem op_inN {k : Nat} (hr : Room k X.A) : OpR X (compareOp .In) (rInN (ctx X) false) := by
  intro pins s σ H x y v u Q I rx ry h
  obtain ⟨F, ι, a, q, kd, kvs, rfl, rfl, ⟨xs, ha, t⟩, hk, ok, hq⟩ := h
  cases rx
  cases ry
  obtain ⟨h1, h2, hd⟩ := dn_at I ha t
  refine wpAny_in_heap (room8 hr).2 (key_is I ok hk) h1 hd ?_
  rw [(isNs_look (k := kd) t).1]
  exact ⟨.bl _, H, I.tok _, rfl, hq⟩
theorem op_notInN {k : Nat} (hr : Room k X.A) : OpR X (compareOp .NotIn) (rInN (ctx X) true) := by
  intro pins s σ H x y v u Q I rx ry h
  obtain ⟨F, ι, a, q, kd, kvs, rfl, rfl, ⟨xs, ha, t⟩, hk, ok, hq⟩ := h
  cases rx
  cases ry
  obtain ⟨h1, h2, hd⟩ := dn_at I ha t
  show wpAny _ _ (do return Value.bool (!(← contains (.ref a) (.ref q)))) _ _ s
  refine wpAny_bind (wpAny_contains_heap (room8 hr).2 (key_is I ok hk) h1 hd (wpAny_pure ?_))
  rw [(isNs_look (k := kd) t).1]
  exact ⟨.bl _, H, I.tok _, rfl, hq⟩
/-- d.get(k, x) -/
def rGetN (c : Ct) : V → List V → Hp → VK → Prop := fun x vs H Q => ∃ F ι a q kd y dd kvs, x = .ref a ∧ vs = [.ref q, y] ∧ DnAt (c.at F) ι H a kvs ∧ IsD (c.at F) ι H (.ref q) kd ∧ keyOk kd = true ∧ IsD (c.at F) ι H y dd ∧ ∀ v, IsD (c.at F) ι H v ((dLook kvs kd).getD dd) → Q v H
theorem mt_getN {k : Nat} (hr : Room k X.A) : MtR X "dict.get" (rGetN (ctx X)) := by
  intro pins s σ H x xs v us Q I rx rs h
  obtain ⟨F, ι, a, q, kd, y, dd, kvs, rfl, rfl, ⟨ys, ha, t⟩, hk, ok, hy, hq⟩ := h
  cases rx
  obtain ⟨u1, u2, rfl, r1, r2⟩ := rs.two
  cases r1
  obtain ⟨h1, h2, hd⟩ := dn_at I ha t
  refine call_meetsIn PySem.F.slot_dict_get hd.typeIs PySem.F.entry_dict_get (PySem.F.args_dict_get_3 _ _ _) (meetsH_dict_get_default _ a q h1 u2) ⟨(room8 hr).2, nk kd, ys, key_is I ok hk, hd, ?_⟩
  obtain ⟨_, g2, g3⟩ := isNs_look (k := kd) t
  cases e : dLook kvs kd with
  | none =>
    rw [g3 e]
    rw [e] at hq
    exact ⟨y, H, I.tok _, r2, hq _ hy⟩
  | some d =>
    obtain ⟨b, u, v, e1, rv, hv⟩ := g2 d e
    rw [e1]
    rw [e] at hq
    exact ⟨v, H, I.tok _, rv, hq v hv⟩
/-- d[k] = v -/
def rSetN (c : Ct) : V → V → V → Hp → (Hp → Prop) → Prop := fun o i v H Q => ∃ F ι a q kd d kvs xs, o = .ref a ∧ i = .ref q ∧ H a = some (.ext (DN (c.at F) a xs)) ∧ IsNs (c.at F) ι H xs kvs ∧ IsD (c.at F) ι H (.ref q) kd ∧ keyOk kd = true ∧ kvs.length < sizeLine ∧ IsD (c.at F) ι H v d ∧
  ∀ xs', IsNs (c.at F) ι H xs' (dPut kvs kd d) → Q (upd H a (.ext (DN (c.at F) a xs')))
theorem set_dn {k : Nat} (hr : Room k X.A) : PSet X (rSetN (ctx X)) := by
  intro pins s σ H o i v ov iv u Q I ro ri rv h
  obtain ⟨F, ι, a, q, kd, d, kvs, xs, rfl, rfl, ha, t, hk, ok, hl, hv, hq⟩ := h
  cases ro
  cases ri
  obtain ⟨h1, h2, hd⟩ := dn_at I ha t
  refine wpAny_setItem_heap (hsz := h2) (room8 hr).2 (key_is I ok hk) hd fun h' hd' sb => ?_
  have hz : (storedH xs (nk kd) q u).length ≤ sizeLine := by
    have := stored_len xs (nk kd) q u
    have := t.len
    omega
  obtain ⟨o', _, _, e1, _⟩ := id hd'
  refine ⟨_, I.write (x := a) (e := a) (o := .ext (DN ((ctx X).at F) a (storedH xs (nk kd) q u))) (h' := h') (t' := _) (by rw [ha]; trivial) (.inl rfl) (fun b ob hb e => (sb.2 b hb).trans e) ⟨o', e1⟩ ?_, hq _ (t.put hk ok rv hv)⟩
  exact dn_obj h1 hz hd'
/-- {} to be a dict with tuple keys -/
theorem pe_dnewN {pos : Pos} : PE X (.Dict [] [] pos) (fun _ H Q => ∀ (c : Ct) p, c.P = X.prog → c.w = X.w → H p = none → Q (.ref p) (upd H p (.ext (DN c p [])))) := ⟨fun pins s σ H Q I h =>
  wpAny_Dict_empty (by
    have hb : (s.heap.objs.size == sysModules) = false := beq_eq_false_iff_ne.mpr (Ne.symm (Nat.ne_of_lt I.big))
    refine ⟨.ref s.heap.objs.size, _, I.laid (a := s.heap.objs.size) (o := .ext (DN (ctx X) s.heap.objs.size [])) (t' := s.toks) (fun _ _ q => Heap.get?_push_of_some _ q) (Nat.le_refl _) ?_, rfl, h (ctx X) _ rfl rfl (I.hok.fresh (Nat.le_refl _))⟩
    exact dn_obj (c := ctx X) hb (Nat.zero_le _) (Heap.DictOfH.new s.heap))⟩
end
end EL
namespace EL
open PySem PySem.Spec PyProof.Rows L2

theorem nk_keyD {k k' : Key} : nk (keyD k) = nk (keyD k') ↔ k = k' := by
  cases k <;> cases k' <;> simp [keyD, nk]
def keyK : D → Option Key
  | .int i => some (.inl i)
  | .str x => some (.inr x)
  | _ => none
theorem keyK_some {d : D} {k : Key} (h : keyK d = some k) : d = keyD k := by
  unfold keyK at h
  split at h <;> cases h <;> rfl
theorem keyK_V {c : Ct} {ι : List Addr} {H : Hp} {v : V} {k : Key} (h : IsD c ι H v (keyD k)) : v = kV k := by
  cases k <;> cases h <;> rfl
section
variable {c : Ct} {ι : List Addr} {H : Hp}
theorem IsKs.look {k : Key} : ∀ {xs : List (Key × V)} {kvs : List (D × D)}, IsKs c ι H xs kvs →
    (valV xs k).isSome = dHas kvs (keyD k) ∧ (∀ d, dLook kvs (keyD k) = some d → ∃ v, valV xs k = some v ∧ IsD c ι H v d) ∧ (dLook kvs (keyD k) = none → valV xs k = none)
  | _, _, .nil => ⟨rfl, (fun _ h => nomatch h), fun _ => rfl⟩
  | _, _, .cons (k := k') (v := v) (xs := xs) (d := d) (kvs := kvs) h t => by
    obtain ⟨h1, h2, h3⟩ := IsKs.look (k := k) t
    by_cases e : k' = k
    · subst e
      refine ⟨?_, fun d' hd => ?_, fun hd => ?_⟩
      · simp [valV, dHas]
      · simp [dLook] at hd
        subst hd
        exact ⟨v, by simp [valV], h⟩
      · simp [dLook] at hd
    · have e' : ¬ nk (keyD k') = nk (keyD k) := fun q => e (nk_keyD.mp q)
      refine ⟨?_, fun d' hd => ?_, fun hd => ?_⟩
      · simp only [valV, dHas, List.find?_cons, List.any_cons, e, e', decide_false, Bool.false_or] at h1 ⊢
        exact h1
      · simp only [dLook, List.find?_cons, e', decide_false] at hd
        obtain ⟨v', g1, g2⟩ := h2 d' hd
        refine ⟨v', ?_, g2⟩
        simp only [valV, List.find?_cons, e, decide_false]
        exact g1
      · simp only [dLook, List.find?_cons, e', decide_false] at hd
        simp only [valV, List.find?_cons, e, decide_false]
        exact h3 hd
theorem IsKs.app : ∀ {xs ys : List (Key × V)} {ks ls : List (D × D)}, IsKs c ι H xs ks → IsKs c ι H ys ls → IsKs c ι H (xs ++ ys) (ks ++ ls)
  | _, _, _, _, .nil, s => s
  | _, _, _, _, .cons h t, s => .cons h (IsKs.app t s)
theorem IsKs.any {k : Key} : ∀ {xs : List (Key × V)} {kvs : List (D × D)}, IsKs c ι H xs kvs → xs.any (fun kv => decide (kv.1 = k)) = dHas kvs (keyD k)
  | _, _, .nil => rfl
  | _, _, .cons (k := k') h t => by
    have := IsKs.any (k := k) t
    simp only [dHas, List.any_cons] at this ⊢
    rw [this]
    congr 1
    rw [Bool.eq_iff_iff, decide_eq_true_iff, decide_eq_true_iff]
    exact nk_keyD.symm
theorem IsKs.mapPut {k : Key} {v : V} {d : D} (hv : IsD c ι H v d) : ∀ {xs : List (Key × V)} {kvs : List (D × D)}, IsKs c ι H xs kvs →
    IsKs c ι H (xs.map fun kv => if kv.1 = k then (kv.1, v) else kv) (kvs.map fun p => if nk p.1 = nk (keyD k) then (p.1, d) else p)
  | _, _, .nil => .nil
  | _, _, .cons (k := k') h t => by
    simp only [List.map_cons]
    by_cases e : k' = k
    · subst e
      rw [if_pos rfl, if_pos rfl]
      exact .cons hv (IsKs.mapPut hv t)
    · rw [if_neg e, if_neg fun q => e (nk_keyD.mp q)]
      exact .cons h (IsKs.mapPut hv t)
theorem IsKs.put {xs : List (Key × V)} {kvs : List (D × D)} {k : Key} {v : V} {d : D} (t : IsKs c ι H xs kvs) (hv : IsD c ι H v d) : IsKs c ι H (putK xs k v) (dPut kvs (keyD k) d) := by
  unfold putK dPut
  rw [← t.any]
  split
  · exact t.mapPut hv
  · exact t.app (.cons hv .nil)
theorem IsKs.len : ∀ {xs : List (Key × V)} {kvs : List (D × D)}, IsKs c ι H xs kvs → xs.length = kvs.length
  | _, _, .nil => rfl
  | _, _, .cons _ t => by rw [List.length_cons, List.length_cons, IsKs.len t]
def tLook {κ : Type} [DecidableEq κ] (kvs : List (κ × SV)) (k : κ) : Option SV := (kvs.find? fun kv => decide (kv.1 = k)).map (·.2)
def tPut {κ : Type} [DecidableEq κ] (kvs : List (κ × SV)) (k : κ) (v : SV) : List (κ × SV) := if kvs.any (fun kv => decide (kv.1 = k)) then kvs.map (fun kv => if kv.1 = k then (kv.1, v) else kv) else kvs ++ [(k, v)]
theorem IsTs.look {κ : Type} [DecidableEq κ] {k : κ} : ∀ {xs : List (κ × V)} {kvs : List (κ × SV)}, IsTs c ι H xs kvs →
    ((xs.find? fun kv => decide (kv.1 = k)).map (·.2)).isSome = (tLook kvs k).isSome ∧ ∀ s, tLook kvs k = some s → ∃ v, (xs.find? fun kv => decide (kv.1 = k)).map (·.2) = some v ∧ IsS c ι H v s
  | _, _, .nil => ⟨rfl, fun _ h => nomatch h⟩
  | _, _, .cons (k := k') (v := v) h t => by
    obtain ⟨h1, h2⟩ := IsTs.look (k := k) t
    by_cases e : k' = k
    · subst e
      refine ⟨by simp [tLook], fun s hs => ?_⟩
      simp [tLook] at hs
      subst hs
      exact ⟨v, by simp, h⟩
    · refine ⟨?_, fun s hs => ?_⟩
      · simp only [tLook, List.find?_cons, e, decide_false] at h1 ⊢
        exact h1
      · simp only [tLook, List.find?_cons, e, decide_false] at hs h2 ⊢
        exact h2 s hs
theorem IsTs.app {κ : Type} : ∀ {xs ys : List (κ × V)} {ks ls : List (κ × SV)}, IsTs c ι H xs ks → IsTs c ι H ys ls → IsTs c ι H (xs ++ ys) (ks ++ ls)
  | _, _, _, _, .nil, s => s
  | _, _, _, _, .cons h t, s => .cons h (IsTs.app t s)
theorem IsTs.any {κ : Type} [DecidableEq κ] {k : κ} : ∀ {xs : List (κ × V)} {kvs : List (κ × SV)}, IsTs c ι H xs kvs → xs.any (fun kv => decide (kv.1 = k)) = kvs.any (fun kv => decide (kv.1 = k))
  | _, _, .nil => rfl
  | _, _, .cons (k := k') h t => by
    simp only [List.any_cons]
    rw [IsTs.any t]
theorem IsTs.mapPut {κ : Type} [DecidableEq κ] {k : κ} {v : V} {d : SV} (hv : IsS c ι H v d) : ∀ {xs : List (κ × V)} {kvs : List (κ × SV)}, IsTs c ι H xs kvs →
    IsTs c ι H (xs.map fun kv => if kv.1 = k then (kv.1, v) else kv) (kvs.map fun kv => if kv.1 = k then (kv.1, d) else kv)
  | _, _, .nil => .nil
  | _, _, .cons (k := k') h t => by
    simp only [List.map_cons]
    by_cases e : k' = k
    · subst e
      rw [if_pos rfl, if_pos rfl]
      exact .cons hv (IsTs.mapPut hv t)
    · rw [if_neg e, if_neg e]
      exact .cons h (IsTs.mapPut hv t)
theorem IsTs.put {xs : List (Key × V)} {kvs : List (Key × SV)} {k : Key} {v : V} {d : SV} (t : IsTs c ι H xs kvs) (hv : IsS c ι H v d) : IsTs c ι H (putK xs k v) (tPut kvs k d) := by
  unfold putK tPut
  rw [← t.any]
  split
  · exact t.mapPut hv
  · exact t.app (.cons hv .nil)
end
section
variable {X : Cx}
def rIxK : R2 := fun x y H Q => ∃ a k xs v, x = .ref a ∧ y = kV k ∧ H a = some (.dK xs) ∧ valV xs k = some v ∧ Q v H
theorem getItem_k {pins : List (Addr × Obj)} {s : Shared} {σ : L2.St} {H : Hp} {a : Addr} {k : Nat} {xs : List (Key × V)} {ky : Key} {v : V} {u : Value} (hr : Room k X.A) (I : Inv X pins σ H s) (e : H a = some (.dK xs)) (ru : RelV (kV ky) u) (l : valV xs ky = some v)
    {Q : Value → Shared → Prop} (hq : ∀ u s', Inv X pins σ H s' → RelV v u → Q u s') : ∃ w', s.TypeIs (.ref a) "dict" ∧ wpAny (model X.prog X.w) X.A (getItem (.ref a) u) (fun r s' => r = w' ∧ Q r s') X.xe s := by
  obtain ⟨z, hd, vs, rel, dd⟩ := dk_rd I.hok (.inl e)
  obtain ⟨w', hw, rw'⟩ := RelO.some_of (v := v) (o := valueAt vs ky) (by rw [← l]; exact rel.val ky)
  exact ⟨w', dd.typeIs, wpAny_getItem_of (kV_is ru) dd.mapOf hw ⟨rfl, hq w' _ (I.tok _) rw'⟩⟩
theorem ix_dk {k : Nat} (hr : Room k X.A) : IxR X rIxK := by
  intro value slice pins s σ H x y v u Q I rx ry h hs
  obtain ⟨a, ky, xs, v', rfl, rfl, e, l, hq⟩ := h
  cases rx
  obtain ⟨w', ht, hg⟩ := getItem_k (Q := EP X pins σ Q) hr I e ry l fun u s' I' rv => ⟨v', H, I', rv, hq⟩
  exact subscriptTail_builtinR ht PySem.F.slot_dict_getitem.lookup hg hs
def rInK (neg : Bool) : R2 := fun x y H Q => ∃ a k xs, x = kV k ∧ y = .ref a ∧ H a = some (.dK xs) ∧ Q (.bl (if neg then !(valV xs k).isSome else (valV xs k).isSome)) H
theorem op_inK {k : Nat} (hr : Room k X.A) : OpR X (compareOp .In) (rInK false) := by
  intro pins s σ H x y v u Q I rx ry h
  obtain ⟨a, ky, xs, rfl, rfl, e, hq⟩ := h
  cases ry
  exact d_in (by have := hr.units; omega) I (.k e) rx fun s' I' => ⟨.bl _, H, I', rfl, hq⟩
theorem op_notInK {k : Nat} (hr : Room k X.A) : OpR X (compareOp .NotIn) (rInK true) := by
  intro pins s σ H x y v u Q I rx ry h
  obtain ⟨a, ky, xs, rfl, rfl, e, hq⟩ := h
  cases ry
  exact d_notIn (by have := hr.units; omega) I (.k e) rx fun s' I' => ⟨.bl _, H, I', rfl, hq⟩
def rGetK : V → List V → Hp → VK → Prop := fun x vs H Q => ∃ a k y xs, x = .ref a ∧ vs = [kV k, y] ∧ H a = some (.dK xs) ∧ Q ((valV xs k).getD y) H
theorem mt_getK {k : Nat} (hr : Room k X.A) : MtR X "dict.get" rGetK := by
  intro pins s σ H x xs v us Q I rx rs h
  obtain ⟨a, ky, y, ys, rfl, rfl, e, hq⟩ := h
  cases rx
  obtain ⟨u1, u2, rfl, r1, r2⟩ := rs.two
  exact d_get2 (by have := hr.units; omega) I (.k e) r1 r2 fun w' s' I' rw' => ⟨_, H, I', rw', hq⟩
end
end EL
namespace EL
open PySem PySem.Spec PyProof.Rows L2

/-- is it a dict of the other kind -/
def isN : List (D × D) → Bool
  | (.none, .none) :: _ => true
  | _ => false
theorem isN_cons {kvs : List (D × D)} (h : isN kvs = true) : ∃ r, kvs = (.none, .none) :: r := by
  unfold isN at h
  split at h
  · exact ⟨_, rfl⟩
  · cases h
/-- a key of this dict: the entries and whether the key may stand among them -/
def dKey (kvs : List (D × D)) (k : D) : Bool := if isN kvs then keyOk k else (keyK k).isSome
def dRest (kvs : List (D × D)) : List (D × D) := if isN kvs then kvs.tail else kvs
def oIx : D → D → Option OR
  | .list xs, .int i => (atI xs i).map .dat
  | .tuple xs, .int i => (atI xs i).map .dat
  | .str z, .int i => if z.length ≤ LIM then (atI z.cps.toList i).map fun c => .dat (.str ⟨#[c]⟩) else none
  | .dict kvs, k => if dKey kvs k then (dLook (dRest kvs) k).map .dat else none
  | _, _ => none
theorem atI_isD {c : Ct} {ι : List Addr} {H : Hp} {xs : List V} {ds : List D} {i : Int} {d : D} (t : IsDs c ι H xs ds) (e : atI ds i = some d) : ∃ v, atI xs i = some v ∧ IsD c ι H v d := by
  unfold atI at e ⊢
  rw [t.length]
  obtain ⟨j, h1, h2⟩ := Option.bind_eq_some_iff.mp e
  obtain ⟨v, h3, h4⟩ := t.get h2
  exact ⟨v, by rw [h1]; exact h3, h4⟩
theorem Rdb.dn {c : Ct} {ι : List Addr} {H : Hp} {v : V} {kvs : List (D × D)} (h : Rdb c ι H v (.dict ((.none, .none) :: kvs))) : ∃ a, v = .ref a ∧ DnAt c ι H a kvs := by
  generalize e : ((PyData.none, PyData.none) :: kvs) = l at h
  cases h with
  | ofD h =>
    cases h with
    | dN h _ t => cases e; exact ⟨_, rfl, _, h, t⟩
    | dK h _ t =>
      cases t with
      | nil => cases e
      | @cons k v xs d kvs h t =>
        have := congrArg (fun l => l.head?.map Prod.fst) e
        cases k <;> cases this
  | own h =>
    cases h with
    | dN h t => cases e; exact ⟨_, rfl, _, h, t⟩
    | dK h t =>
      cases t with
      | nil => cases e
      | @cons k v xs d kvs h t =>
        have := congrArg (fun l => l.head?.map Prod.fst) e
        cases k <;> cases this
theorem Rdb.dk {c : Ct} {ι : List Addr} {H : Hp} {v : V} {kvs : List (D × D)} (h : Rdb c ι H v (.dict kvs)) (hn : isN kvs = false) : ∃ a xs, v = .ref a ∧ H a = some (.dK xs) ∧ IsKs c ι H xs kvs := by
  cases h with
  | ofD h =>
    cases h with
    | dN h _ t => cases hn
    | dK h _ t => exact ⟨_, _, rfl, h, t⟩
  | own h =>
    cases h with
    | dN h t => cases hn
    | dK h t => exact ⟨_, _, rfl, h, t⟩
theorem Rdb.keyD {c : Ct} {ι : List Addr} {H : Hp} {v : V} {d : D} (h : Rdb c ι H v d) (ok : keyOk d = true) : ∃ q, v = .ref q ∧ IsD c ι H (.ref q) d := by
  cases h with
  | ofD h =>
    obtain ⟨q, rfl⟩ := key_ref ok h
    exact ⟨q, rfl, h⟩
  | own h => cases h <;> simp [keyOk] at ok
theorem dKey_n {kvs : List (D × D)} {k : D} (h : dKey ((.none, .none) :: kvs) k = true) : keyOk k = true := h
theorem dKey_k {kvs : List (D × D)} {k : D} (hn : isN kvs = false) (h : dKey kvs k = true) : ∃ ky, k = keyD ky := by
  unfold dKey at h
  rw [hn] at h
  cases e : keyK k with
  | none => rw [if_neg Bool.false_ne_true, e] at h; cases h
  | some ky => exact ⟨ky, keyK_some e⟩
theorem dRest_k {kvs : List (D × D)} (hn : isN kvs = false) : dRest kvs = kvs := by
  unfold dRest
  rw [hn]; rfl
theorem Rdb.key {c : Ct} {ι : List Addr} {H : Hp} {v : V} {k : Key} (h : Rdb c ι H v (EL.keyD k)) : v = kV k := by
  cases k with
  | inl i => exact h.int
  | inr x => exact h.str
def rIxAll (c : Ct) : R2 := fun x y H Q => rIx c.K x y H Q ∨ rIxN c x y H Q ∨ rIxK x y H Q
theorem ix_all {X : Cx} {k : Nat} (hr : Room k X.A) : IxR X (rIxAll (ctx X)) := IxR.or ix_seq (IxR.or (ix_dn hr) (ix_dk hr))
theorem r2_ix {c : Ct} : R2D c (rIxAll c) oIx := fun F ι H M m x y dx dy o Q rp rx ry e k => by
    unfold oIx at e
    split at e
    · obtain ⟨d, e9, rfl⟩ := Option.map_eq_some_iff.mp e
      obtain ⟨p, xs, rfl, hp, t⟩ := rx.lst
      cases ry.int
      obtain ⟨v, e', hv⟩ := atI_isD t e9
      exact .inl (.inl ⟨p, xs, _, v, rfl, rfl, .of hp, e', k.dat rp hv⟩)
    · obtain ⟨d, e9, rfl⟩ := Option.map_eq_some_iff.mp e
      obtain ⟨p, xs, rfl, hp, t, _⟩ := rx.tup
      cases ry.int
      obtain ⟨v, e', hv⟩ := atI_isD t e9
      exact .inl (.inr (.inl ⟨p, xs, _, v, rfl, rfl, hp, e', k.dat rp hv⟩))
    · split at e
      · rename_i hl
        obtain ⟨d, e9, rfl⟩ := Option.map_eq_some_iff.mp e
        cases rx.str
        cases ry.int
        exact .inl (.inr (.inr ⟨_, _, d, rfl, rfl, lim_le hl, e9, k.dat rp (.str _)⟩))
      · cases e
    · rename_i kvs
      split at e
      · rename_i ok
        obtain ⟨d, e9, rfl⟩ := Option.map_eq_some_iff.mp e
        cases hn : isN kvs with
        | true =>
          obtain ⟨r, rfl⟩ := isN_cons hn
          obtain ⟨q, rfl, hq⟩ := ry.keyD (dKey_n ok)
          obtain ⟨a, rfl, ha⟩ := rx.dn
          exact .inr (.inl ⟨F, ι, a, q, _, d, _, rfl, rfl, ha, hq, dKey_n ok, e9, fun v hv => k.dat rp hv⟩)
        | false =>
          obtain ⟨ky, rfl⟩ := dKey_k hn ok
          rw [dRest_k hn] at e9
          obtain ⟨a, xs, rfl, ha, t⟩ := rx.dk hn
          cases ry.key
          obtain ⟨v, g1, g2⟩ := (IsKs.look t).2.1 d e9
          exact .inr (.inr ⟨a, ky, xs, v, rfl, rfl, ha, g1, k.dat rp g2⟩)
      · cases e
    · cases e
theorem atI_isS {c : Ct} {ι : List Addr} {H : Hp} {xs : List V} {ds : List SV} {i : Int} {d : SV} (t : IsSs c ι H xs ds) (e : atI ds i = some d) : ∃ v, atI xs i = some v ∧ IsS c ι H v d := by
  unfold atI at e ⊢
  rw [t.length]
  obtain ⟨j, h1, h2⟩ := Option.bind_eq_some_iff.mp e
  obtain ⟨v, h3, h4⟩ := t.get h2
  exact ⟨v, by rw [h1]; exact h3, h4⟩
/-- an item, of a datum or of a changing object -/
def ixD (d e : D) : Option SV := match oIx d e with
  | some (.dat x) => some (.dat x)
  | _ => none
def ixS (s t : SV) (M : Sto) : Option SV := match t with
  | .dat e => (match s with
    | .dat d => ixD d e
    | .ptr n => (match M[n]? with
      | some (.fl d) => ixD d e
      | some (.ls ss) => (match e with
        | .int i => atI ss i
        | _ => none)
      | some (.dc kvs) => (keyK e).bind fun k => tLook kvs k
      | _ => none))
  | .ptr _ => none
theorem ixD_some {d e : D} {s : SV} (h : ixD d e = some s) : ∃ x, oIx d e = some (.dat x) ∧ s = .dat x := by
  unfold ixD at h
  split at h
  · rename_i x hx; cases h; exact ⟨x, hx, rfl⟩
  · cases h
def dIx (fa fb : DE) : DE := fun Γ M => (fa Γ M).bind fun p => (fb Γ p.2).bind fun q => (ixS p.1 q.1 q.2).map fun s => (s, q.2)
theorem ix_ok {c : Ct} {F ι : List Addr} {H : Hp} {M : Sto} {v u : V} {s t r : SV} {Q : VK} (rp : Rep (c.at F) ι H M) (i1 : IsS (c.at F) ι H v s) (i2 : IsS (c.at F) ι H u t) (e : ixS s t M = some r) (q : Aft (c.at F) ι H M r Q) : rIxAll c v u H Q := by
  unfold ixS at e
  split at e
  case h_2 => cases e
  rename_i e0
  cases i2 with
  | dat i2 =>
  have key : ∀ d, Rdb (c.at F) ι H v d → ixD d e0 = some r → rIxAll c v u H Q := fun d R hx => by
    obtain ⟨x, h1, rfl⟩ := ixD_some hx
    exact r2_ix F ι H M false v u d e0 _ Q rp R (.ofD i2) h1 q
  split at e
  · cases i1 with
    | dat i1 => exact key _ (.ofD i1) e
  · rename_i n
    cases i1 with
    | ptr ha =>
    split at e
    · rename_i d hm
      cases rp.at_ _ _ _ ha hm with
      | fl h => exact key _ (.own h) e
    · rename_i ss hm
      cases rp.at_ _ _ _ ha hm with
      | ls h t =>
        split at e
        · cases i2
          obtain ⟨v, e', hv⟩ := atI_isS t e
          exact .inl (.inl ⟨_, _, _, v, rfl, rfl, .of h, e', q v ι H .refl rp hv⟩)
        · cases e
    · rename_i kvs hm
      cases rp.at_ _ _ _ ha hm with
      | dc h t =>
        obtain ⟨ky, h1, h2⟩ := Option.bind_eq_some_iff.mp e
        have := keyK_some h1
        subst this
        cases keyK_V i2
        obtain ⟨v, e', hv⟩ := (IsTs.look t).2 _ h2
        exact .inr (.inr ⟨_, ky, _, v, rfl, rfl, h, e', q v ι H .refl rp hv⟩)
    · cases e
section
variable {X : Cx} {a b : Expr} {fa fb : DE} {pos : Pos}
theorem pd_ix {k : Nat} (hr : Room k X.A) (ha : PD X a fa) (hb : PD X b fb) (hs : PlainIx b := by exact fun _ _ => rfl) : PD X (.Subscript a b pos) (dIx fa fb) :=
  PE.weak (pe_ix (ix_all hr) ha hb hs) fun σ H Q ⟨F, ι, Γ, M, s, M', w, e, k⟩ => by
    obtain ⟨⟨sa, M1⟩, e1, e⟩ := Option.bind_eq_some_iff.mp e
    obtain ⟨⟨sb, M2⟩, e2, e⟩ := Option.bind_eq_some_iff.mp e
    obtain ⟨o, e5, e⟩ := Option.map_eq_some_iff.mp e
    cases e
    refine ⟨F, ι, Γ, M, sa, M1, w, e1, fun v ι1 H1 x1 r1 i1 => ?_⟩
    refine ⟨F, ι1, Γ, M1, sb, M2, w.next x1 r1, e2, fun u ι2 H2 x2 r2 i2 => ?_⟩
    exact ix_ok (c := ctx X) r2 (i1.mono x2) i2 e5 fun v' ι3 H3 x3 r3 i3 => k v' ι3 H3 (x1.trans (x2.trans x3)) r3 i3
end

def cutL {α : Type} (xs : List α) (lo hi : Option Int) : List α := (xs.drop (HT.sIx xs.length 0 lo)).take (HT.sIx xs.length xs.length hi - HT.sIx xs.length 0 lo)
abbrev DO := Ga → Sto → Option (Option Int × Sto)
def oN : DO := fun _ M => some (none, M)
def oS (fe : DE) : DO := fun Γ M => (fe Γ M).bind fun p => match p.1 with
  | .dat (.int i) => some (some i, p.2)
  | _ => none
def sCut (d : D) (lo hi : Option Int) : Option OR := match d with
  | .list xs => some (.new (.list (cutL xs lo hi)))
  | .tuple xs => some (.dat (.tuple (cutL xs lo hi)))
  | .str z => if z.length ≤ LIM then some (.dat (.str (cutS z lo hi))) else none
  | _ => none
def dSl (fa : DE) (fl fh : DO) (m : Bool := false) : DE := fun Γ M => (fa Γ M).bind fun p => (fl Γ p.2).bind fun l => (fh Γ l.2).bind fun h => (val p.1 h.2).bind fun d => (sCut d l.1 h.1).map fun o => o.out m h.2
def rdO (c : Ct) (f : DO) : TO := fun σ H Q => ∃ F ι Γ M o M', Wd (c.at F) ι σ H Γ M ∧ f Γ M = some (o, M') ∧ ∀ ι' H', Ext ι H ι' H' → Rep (c.at F) ι' H' M' → Q o H'
abbrev PDO (X : Cx) (e : Option Expr) (f : DO) : Prop := PO X e (rdO (ctx X) f)
theorem PO.weak {X : Cx} {e : Option Expr} {t t' : TO} (h : PO X e t) (w : ∀ σ H Q, t' σ H Q → t σ H Q) : PO X e t' := ⟨fun pins s σ H Q I q => h.run pins s σ H Q I (w σ H Q q)⟩
section
variable {X : Cx} {a e : Expr} {lo hi : Option Expr} {fa fe : DE} {fl fh : DO} {pos p2 : Pos}
theorem pdo_none : PDO X none oN := PO.weak po_none fun σ H Q ⟨F, ι, Γ, M, o, M', w, e, k⟩ => by
  cases e
  exact k ι H .refl w.rep
theorem pdo_some (h : PD X e fe) : PDO X (some e) (oS fe) := PO.weak (po_some h) fun σ H Q ⟨F, ι, Γ, M, o, M', w, e, k⟩ => by
  obtain ⟨⟨s, M1⟩, e1, e⟩ := Option.bind_eq_some_iff.mp e
  refine ⟨F, ι, Γ, M, s, M1, w, e1, fun v ι1 H1 x1 r1 i1 => ?_⟩
  split at e
  · rename_i heq
    simp only at heq
    subst heq
    cases e
    cases i1 with | dat i1 => cases i1; exact ⟨_, rfl, k ι1 H1 x1 r1⟩
  · cases e
theorem cut_isDs {c : Ct} {ι : List Addr} {H : Hp} {xs : List V} {ds : List D} {lo hi : Option Int} (t : IsDs c ι H xs ds) : IsDs c ι H (cutV xs lo hi) (cutL ds lo hi) := by
  unfold cutV cutL
  rw [t.length]
  exact (t.drop _).take _
theorem cut_whole {α : Type} {xs : List α} {lo hi : Option Int} (h : HT.sIx xs.length 0 lo = 0 ∧ HT.sIx xs.length xs.length hi = xs.length) : cutL xs lo hi = xs := by
  unfold cutL
  rw [h.1, h.2, List.drop_zero, Nat.sub_zero, List.take_length]
theorem pd_sl {m : Bool} (ha : PD X a fa) (hl : PDO X lo fl) (hh : PDO X hi fh) : PD X (.Subscript a (.Slice lo hi none p2) pos) (dSl fa fl fh m) :=
  PE.weak (pe_slice (SlR.or sl_list (SlR.or sl_tupA sl_str)) ha hl hh) fun σ H Q ⟨F, ι, Γ, M, s, M', w, e, k⟩ => by
    obtain ⟨⟨sa, M1⟩, e1, e⟩ := Option.bind_eq_some_iff.mp e
    obtain ⟨⟨l, M2⟩, e2, e⟩ := Option.bind_eq_some_iff.mp e
    obtain ⟨⟨h, M3⟩, e3, e⟩ := Option.bind_eq_some_iff.mp e
    obtain ⟨d, e4, e⟩ := Option.bind_eq_some_iff.mp e
    obtain ⟨o, e5, e⟩ := Option.map_eq_some_iff.mp e
    refine ⟨F, ι, Γ, M, sa, M1, w, e1, fun v ι1 H1 x1 r1 i1 => ?_⟩
    have w1 := w.next x1 r1
    refine ⟨F, ι1, Γ, M1, l, M2, w1, e2, fun ι2 H2 x2 r2 => ?_⟩
    refine ⟨F, ι2, Γ, M2, h, M3, w1.next x2 r2, e3, fun ι3 H3 x3 r3 => ?_⟩
    have R := rdb_of r3 ((i1.mono x2).mono x3) e4
    have K : AftO ((ctx X).at F) ι3 H3 M3 m o Q := fun v4 ι4 H4 x4 r4 i4 => by
      simp only [e] at r4 i4
      exact k v4 ι4 H4 (x1.trans (x2.trans (x3.trans x4))) r4 i4
    unfold sCut at e5
    split at e5
    · cases e5
      obtain ⟨p, xs, rfl, hp, t⟩ := R.lst
      exact .inl ⟨p, xs, rfl, .of hp, fun q hq => K.newL r3 (cut_isDs t) hq⟩
    · cases e5
      obtain ⟨p, xs, rfl, hp, t, id⟩ := R.tup
      refine .inr (.inl ⟨p, xs, rfl, hp, fun hw => ?_, fun _ q hq => K.newT r3 (cut_isDs t) hq⟩)
      rw [t.length] at hw
      rw [cut_whole hw] at K
      exact K.dat r3 id
    · split at e5
      · rename_i hz
        cases e5
        cases R.str
        exact .inr (.inr ⟨_, rfl, lim_le hz, K.dat r3 (.str _)⟩)
      · cases e5
    · cases e5
end

section
variable {prog : Program} {w : World} {A : Around} {E : Value → Shared → Prop} {s : Shared}
theorem adjust_rev (n : Nat) : Builtin.Slice.sliceAdjust none none (-1) (n : Int) = ((n : Int) - 1, -1) := by
  unfold Builtin.Slice.sliceAdjust
  have h1 : ((-1 : Int) < 0) := by decide
  simp only [h1, if_true]
theorem places_rev (n : Nat) : Builtin.Slice.slicePlaces ((n : Int) - 1) (-1) (-1) = n := by
  unfold Builtin.Slice.slicePlaces
  have h1 : ¬ ((-1 : Int) > 0) := by decide
  simp only [h1, if_false]
  cases n with
  | zero => rfl
  | succ m =>
    rw [if_pos (by omega), show (-(-1) : Int) = 1 from rfl, Int.ediv_one]
    omega
theorem pick_rev (xs : Array Value) : ((List.range xs.size).filterMap fun (m : Nat) => xs[(((xs.size : Int) - 1) + (m : Int) * (-1)).toNat]?).toArray = xs.toList.reverse.toArray := by
  congr 1
  have h : ∀ l : List Nat, (∀ m ∈ l, m < xs.size) → (l.filterMap fun (m : Nat) => xs[(((xs.size : Int) - 1) + (m : Int) * (-1)).toNat]?) = l.map fun m => xs.toList.getD (xs.size - 1 - m) .none := by
    intro l
    induction l with
    | nil => intro _; rfl
    | cons m l ih =>
      intro hl
      have hm : m < xs.size := hl m List.mem_cons_self
      have e : (((xs.size : Int) - 1) + (m : Int) * (-1)).toNat = xs.size - 1 - m := by omega
      rw [List.filterMap_cons, e, Array.getElem?_eq_getElem (by omega), ih fun k hk => hl k (List.mem_cons_of_mem _ hk)]
      simp only [List.map_cons]
      congr 1
      rw [List.getD_eq_getElem?_getD, Array.getElem?_toList, Array.getElem?_eq_getElem (by omega)]
      rfl
  rw [h _ fun m hm => List.mem_range.mp hm]
  apply List.ext_getElem
  · simp
  · intro i h1 h2
    simp only [List.length_map, List.length_range] at h1
    simp only [List.getElem_map, List.getElem_range, List.getElem_reverse, List.getD_eq_getElem?_getD, Array.getElem?_toList]
    rw [Array.getElem?_eq_getElem (by omega)]
    simp
theorem getItem_tuple_rev {t sl : Addr} {items : Array Value} {vl vu vs : Value} {Q : Value → Shared → Prop} (ht : IsTup s.heap t items) (hs : s.heap.IsSliceOf sl vl vu vs) (pl : IsPart vl none) (pu : IsPart vu none) (ps : IsPart vs (some (-1)))
    (h : Q (.ref s.heap.objs.size) { s with heap := s.heap.push { cls := .type "tuple", data := .seq items.toList.reverse.toArray } })
    (hsz : items.size ≤ sizeLine) : wpAny (model prog w) A (getItem (.ref t) (.ref sl)) Q E s := by
  have htake : sizeOk (.seq items.toList.reverse.toArray) := by
    show items.toList.reverse.toArray.size ≤ sizeLine
    rw [List.size_toArray, List.length_reverse, Array.length_toList]
    exact hsz
  obtain ⟨os, hos, hcs, hds⟩ := id hs
  have hTs : s.TypeIs (.ref sl) "slice" := ⟨os, hos, hcs⟩
  unfold getItem
  try with_reducible refine wpAny_holding ?_
  first | refine wpAny_bind (wpAny_pure ?_) | skip
  refine wpAny_bind (wpAny_sequenceKey ht.typeIs (by decide) ?_)
  refine wpAny_bind (wpAny_callSpecial?_slot (name := Str.ofString "__getitem__") ht.typeIs PyProof.Rows.slot_tuple_getitem
    (wpAny_call_entry PyProof.Rows.slot_tuple_getitem ht.typeIs entry_tuple_getitem ?_ (args_tuple_getitem _ _)))
  show wpAny _ _ (Builtin.Tuple.tupleItemsOf (.ref t) >>= _) _ _ s
  refine wpAny_bind (tupleItemsOf_ ht ?_)
  refine wpAny_bind (wpAny_typeOf hTs ?_)
  rw [if_pos (by decide)]
  have hap : ∀ {Q : Int × Int × Nat → Shared → Prop} {E : Value → Shared → Prop} {A : Around}, Q ((items.size : Int) - 1, -1, items.size) s → wpAny (model prog w) A (Builtin.Slice.sliceApplied (.ref sl) (pure (items.size : Int))) Q E s := by
    intro Q E A h
    unfold Builtin.Slice.sliceApplied Builtin.Slice.sliceFields
    refine wpAny_bind (wpAny_bind (wpAny_field hos hds (x := vl) rfl (wpAny_bind (wpAny_field hos hds (x := vu) rfl (wpAny_bind (wpAny_field hos hds (x := vs) rfl (wpAny_pure ?_)))))))
    refine wpAny_bind (HT.slicePart_ ps ?_)
    show wpAny _ _ (if ((-1 : Int) == 0) = true then _ else _) _ _ s
    rw [if_neg (by decide)]
    refine wpAny_bind (HT.slicePart_ pl (wpAny_bind (HT.slicePart_ pu (wpAny_bind (wpAny_pure ?_)))))
    show wpAny _ _ (match Builtin.Slice.sliceAdjust none none (-1) (items.size : Int) with | (lo, hi) => pure (lo, (-1 : Int), Builtin.Slice.slicePlaces lo hi (-1))) _ _ s
    rw [adjust_rev]
    show wpAny _ _ (pure ((items.size : Int) - 1, (-1 : Int), Builtin.Slice.slicePlaces ((items.size : Int) - 1) (-1) (-1))) _ _ s
    rw [places_rev]
    exact wpAny_pure h
  refine wpAny_bind (hap ?_)
  have hno : ¬ ((((items.size : Int) - 1) == 0 && (-1 : Int) == 1 && items.size == items.size) = true) := by
    intro q
    rw [Bool.and_eq_true, Bool.and_eq_true] at q
    exact absurd q.1.2 (by decide)
  show wpAny _ _ (if (((items.size : Int) - 1) == 0 && (-1 : Int) == 1 && items.size == items.size) = true then _ else _) _ _ s
  rw [if_neg hno, pick_rev]
  first
    | exact wpAny_bind (m := Builtin.Tuple.tupleExact _) (wpAny_newObj_type (wpAny_pure ⟨_, rfl, wpAny_pure h⟩) htake)
    | exact wpAny_bind (m := Builtin.Tuple.tupleExact _) (wpAny_newObj_type (wpAny_bind (wpAny_pure (wpAny_pure ⟨_, rfl, wpAny_pure h⟩))) htake)
    | exact wpAny_bind (wpAny_bind (m := Builtin.Tuple.tupleExact _) (wpAny_newObj_type (wpAny_pure (wpAny_pure ⟨_, rfl, wpAny_pure h⟩)) htake))
    | exact wpAny_bind (wpAny_bind (m := Builtin.Tuple.tupleExact _) (wpAny_newObj_type (wpAny_pure ⟨_, rfl, wpAny_pure h⟩) htake))
end
def oRev : D → Option OR
  | .tuple xs => some (.dat (.tuple xs.reverse))
  | .list xs => some (.new (.list xs.reverse))
  | _ => none
section
variable {X : Cx}
def tRevA (K : PySem.W.Frag) (te : TE) : TE := fun σ H Q => te σ H fun x H1 => ∃ a xs, x = .ref a ∧ ((SqT K H1 a xs ∧ ∀ p, H1 p = none → Q (.ref p) (upd H1 p (.tup xs.reverse))) ∨ (SqL K H1 a xs ∧ ∀ p, H1 p = none → Q (.ref p) (upd H1 p (.lst xs.reverse))))
theorem pe_revA {e : Expr} {te : TE} {k : Nat} {p1 p2 p3 pos : Pos} (he : PE X e te) : PE X (.Subscript e (.Slice none none (some (.UnaryOp .USub (.Constant (.int 1) k p1) p2)) p3) pos) (tRevA X.K te) := by
  refine ⟨fun pins s σ H Q I h => ?_⟩
  refine Subscript_ (thn (he.run pins s σ H _ I h) fun v s1 ⟨x, H1, I1, r1, q1⟩ => ?_)
  obtain ⟨a, xs, ex, hx⟩ := q1
  subst ex
  cases r1
  have hst : PO X (some (.UnaryOp .USub (.Constant (.int 1) k p1) p2)) (tPart (tUn (rU fun i => .int (-i)) (tC (.int 1)))) := po_some (pe_un un_neg pe_int)
  refine wpAny_Slice (thn (po_none.run pins s1 σ H1 (fun o H2 => o = none ∧ H2 = H1) I1 ⟨rfl, rfl⟩) fun vl s2 ⟨l, H2, I2, pl, el, e2⟩ => ?_)
  subst el e2
  refine thn (po_none.run pins s2 σ H2 (fun o H3 => o = none ∧ H3 = H2) I2 ⟨rfl, rfl⟩) fun vu s3 ⟨u, H3, I3, pu, eu, e3⟩ => ?_
  subst eu e3
  refine thn (hst.run pins s3 σ H3 (fun o H4 => o = some (-1) ∧ H4 = H3) I3 ⟨1, rfl, -1, rfl, rfl, rfl⟩) fun vs s4 ⟨o, H4, I4, ps, eo, e4⟩ => ?_
  subst eo e4
  have I5 : Inv X pins σ H4 { s4 with heap := s4.heap.push { cls := .type "slice", data := .fields #[vl, vu, vs] } } := I4.kept (t' := s4.toks) fun b ob q => Heap.get?_push_of_some _ q
  show wpAny (model X.prog X.w) X.A (subscriptTail e (.Slice none none (some (.UnaryOp .USub (.Constant (.int 1) k p1) p2)) p3) (.ref a) (.ref s4.heap.objs.size)) (EP X pins σ Q) X.xe { s4 with heap := s4.heap.push { cls := .type "slice", data := .fields #[vl, vu, vs] } }
  rcases hx with ⟨hx, q⟩ | ⟨hx, q⟩
  · obtain ⟨its, r, ht, hz⟩ := I5.tuple hx
    refine tail_any (ops := [.ref a, .ref s4.heap.objs.size]) ht.typeIs PyProof.Rows.slot_tuple_getitem.lookup ?_ (by with_unfolding_all rfl)
    refine getItem_tuple_rev ht (Heap.IsSliceOf.new _ vl vu vs) pl pu ps ?_ (by rw [List.size_toArray, ← r.length]; exact hz)
    refine ⟨.ref _, _, I5.laid (t' := s4.toks) (o := .tup xs.reverse) (fun b ob q => Heap.get?_push_of_some _ q) (Nat.le_refl _) ?_, rfl, q _ (I5.hok.fresh (Nat.le_refl _))⟩
    exact ⟨by rw [List.length_reverse]; exact hz, _, r.reverse, IsTup.new _ _⟩
  · obtain ⟨its, r, ht, hz⟩ := I5.list hx
    have hlen := r.length
    refine tail_any (ops := [.ref a, .ref s4.heap.objs.size]) ht.isList.typeIs (PySem.slot_list_getitem.lookup) ?_ (by with_unfolding_all rfl)
    refine wpAny_getItem_list_slice ht.isList (Heap.IsSliceOf.new _ vl vu vs) pl pu ps (by decide) ?_ (by rw [List.size_toArray]; omega)
    rw [PySem.W.krv_pick]
    refine ⟨.ref _, _, I5.laid (t' := s4.toks) (o := .lst xs.reverse) (fun b ob q => Heap.get?_push_of_some _ q) (Nat.le_refl _) ?_, rfl, q _ (I5.hok.fresh (Nat.le_refl _))⟩
    exact ⟨by rw [List.length_reverse]; exact hz, _, _, r.reverse, Heap.get?_push_size _ rfl⟩
theorem pd_rev {m : Bool} {e : Expr} {fe : DE} {k : Nat} {p1 p2 p3 pos : Pos} (he : PD X e fe) : PD X (.Subscript e (.Slice none none (some (.UnaryOp .USub (.Constant (.int 1) k p1) p2)) p3) pos) (dUn oRev fe m) :=
  PE.weak (pe_revA he) fun σ H Q ⟨F, ι, Γ, M, s, M', w, e, k⟩ => by
    obtain ⟨⟨sa, M1⟩, e1, e⟩ := Option.bind_eq_some_iff.mp e
    obtain ⟨da, e3, e⟩ := Option.bind_eq_some_iff.mp e
    obtain ⟨o, e5, e⟩ := Option.map_eq_some_iff.mp e
    refine ⟨F, ι, Γ, M, sa, M1, w, e1, fun v ι1 H1 x1 r1 i1 => ?_⟩
    have R := rdb_of r1 i1 e3
    have K : AftO ((ctx X).at F) ι1 H1 M1 m o Q := fun v4 ι4 H4 x4 r4 i4 => by
      simp only [e] at r4 i4
      exact k v4 ι4 H4 (x1.trans x4) r4 i4
    unfold oRev at e5
    split at e5
    · cases e5
      obtain ⟨p, xs, rfl, hp, t, _⟩ := R.tup
      exact ⟨p, xs, rfl, .inl ⟨hp, fun q hq => K.newT r1 t.reverse hq⟩⟩
    · cases e5
      obtain ⟨p, xs, rfl, hp, t⟩ := R.lst
      exact ⟨p, xs, rfl, .inr ⟨.of hp, fun q hq => K.newL r1 t.reverse hq⟩⟩
    · cases e5
end

theorem Rdbs.one {c : Ct} {ι : List Addr} {H : Hp} {vs : List V} {d : D} (h : Rdbs c ι H vs [d]) : ∃ v, vs = [v] ∧ Rdb c ι H v d := by
  cases h with
  | cons h t => cases t; exact ⟨_, rfl, h⟩
theorem Rdbs.two {c : Ct} {ι : List Addr} {H : Hp} {vs : List V} {d e : D} (h : Rdbs c ι H vs [d, e]) : ∃ v u, vs = [v, u] ∧ Rdb c ι H v d ∧ Rdb c ι H u e := by
  cases h with
  | cons h t =>
    cases t with
    | cons h' t => cases t; exact ⟨_, _, rfl, h, h'⟩
def bLen : List D → Option OR
  | [.str z] => if z.length ≤ LIM then some (.dat (.int z.length)) else none
  | [.list xs] => some (.dat (.int xs.length))
  | [.tuple xs] => some (.dat (.int xs.length))
  | [.dict kvs] => some (.dat (.int (if isN kvs then kvs.length - 1 else kvs.length : Nat)))
  | _ => none
def lenD (d : D) : Option Int := match bLen [d] with
  | some (.dat (.int n)) => some n
  | _ => none
def rLenN (c : Ct) : List V → Hp → VK → Prop := fun xs H Q => ∃ F ι a kvs, xs = [.ref a] ∧ DnAt (c.at F) ι H a kvs ∧ Q (.int kvs.length) H
def rLenK : List V → Hp → VK → Prop := fun xs H Q => ∃ a kvs, xs = [.ref a] ∧ H a = some (.dK kvs) ∧ Q (.int kvs.length) H
def bAbs : List D → Option OR
  | [.int i] => some (.dat (.int (if i < 0 then -i else i)))
  | _ => none
def bInt : List D → Option OR
  | [.int i] => some (.dat (.int i))
  | [.bool b] => some (.dat (.int (if b then 1 else 0)))
  | [.str a] => if a.length ≤ 640 then (intText? a).map fun n => .dat (.int n) else none
  | _ => none
def bMin : List D → Option OR
  | [.int i, .int j] => some (.dat (.int (if j < i then j else i)))
  | _ => none
def bMax : List D → Option OR
  | [.int i, .int j] => some (.dat (.int (if j > i then j else i)))
  | _ => none
def intsD : List D → Option (List Int)
  | [] => some []
  | .int i :: r => (intsD r).map (i :: ·)
  | _ :: _ => none
def blsD : List D → Option (List Bool)
  | [] => some []
  | .bool i :: r => (blsD r).map (i :: ·)
  | _ :: _ => none
theorem intsD_eq : ∀ {ds : List D} {ns : List Int}, intsD ds = some ns → ds = ns.map .int
  | [], ns, e => by cases e; rfl
  | .int i :: r, ns, e => by
    obtain ⟨ms, e1, rfl⟩ := Option.map_eq_some_iff.mp e
    rw [intsD_eq e1]; rfl
  | .none :: _, _, e => by cases e
  | .bool _ :: _, _, e => by cases e
  | .str _ :: _, _, e => by cases e
  | .list _ :: _, _, e => by cases e
  | .tuple _ :: _, _, e => by cases e
  | .dict _ :: _, _, e => by cases e
theorem blsD_eq : ∀ {ds : List D} {ns : List Bool}, blsD ds = some ns → ds = ns.map .bool
  | [], ns, e => by cases e; rfl
  | .bool i :: r, ns, e => by
    obtain ⟨ms, e1, rfl⟩ := Option.map_eq_some_iff.mp e
    rw [blsD_eq e1]; rfl
  | .none :: _, _, e => by cases e
  | .int _ :: _, _, e => by cases e
  | .str _ :: _, _, e => by cases e
  | .list _ :: _, _, e => by cases e
  | .tuple _ :: _, _, e => by cases e
  | .dict _ :: _, _, e => by cases e
theorem intsD_map (ns : List Int) : intsD (ns.map .int) = some ns := by
  induction ns with
  | nil => rfl
  | cons n ns ih => rw [List.map_cons, intsD, ih]; rfl
theorem blsD_map (ns : List Bool) : blsD (ns.map .bool) = some ns := by
  induction ns with
  | nil => rfl
  | cons n ns ih => rw [List.map_cons, blsD, ih]; rfl
def bSum : List D → Option OR
  | [.list ds] => (intsD ds).map fun ns => .dat (.int ns.sum)
  | _ => none
def bAll : List D → Option OR
  | [.list ds] => (blsD ds).map fun ns => .dat (.bool (ns.all id))
  | _ => none
def bAny : List D → Option OR
  | [.list ds] => (blsD ds).map fun ns => .dat (.bool (ns.any id))
  | _ => none
def bTuple : List D → Option OR
  | [.list ds] => some (.dat (.tuple ds))
  | [.tuple ds] => some (.dat (.tuple ds))
  | _ => none
def bList : List D → Option OR
  | [.list ds] => some (.new (.list ds))
  | [.tuple ds] => some (.new (.list ds))
  | _ => none
section
variable {X : Cx} {a e e2 : Expr} {es : List Expr} {fr : DA} {p pos : Pos}
theorem call_lenN : CallR X (.builtin "len") (rLenN (ctx X)) := by
  intro pins s σ H xs us Q I r h
  obtain ⟨F, ι, a, kvs, rfl, ⟨ys, ha, t⟩, q⟩ := h
  obtain ⟨u, rfl, rx⟩ := vals1 r
  cases rx
  obtain ⟨h1, h2, hd⟩ := dn_at I ha t
  have hl := t.len
  refine call_len_dictH h1 hd (by rw [sizeLine_eq] at h2; omega) ?_
  rw [hl]
  exact ⟨.int _, H, I.tok _, ⟨_, rfl⟩, q⟩
theorem call_lenK : CallR X (.builtin "len") rLenK := by
  intro pins s σ H xs us Q I r h
  obtain ⟨a, kvs, rfl, ha, q⟩ := h
  exact call_lenD pins s σ H _ us Q I r ⟨a, kvs, rfl, ha, q⟩
def rLenA (c : Ct) : List V → Hp → VK → Prop := fun xs H Q => (∃ x n, xs = [x] ∧ LenV c.K x H n ∧ Q (.int n) H) ∨ rLenN c xs H Q ∨ rLenK xs H Q
theorem call_lenA : CallR X (.builtin "len") (rLenA (ctx X)) := CallR.or call_len (CallR.or call_lenN call_lenK)
theorem rc_len {c : Ct} : RCD c (rLenA c) bLen := fun F ι H M m xs ds o Q rp R e k => by
    unfold bLen at e
    split at e
    · split at e
      · rename_i hz
        cases e
        obtain ⟨v, rfl, R0⟩ := R.one
        cases R0.str
        exact .inl ⟨_, _, rfl, ⟨lim_le hz, rfl⟩, k.dat rp (.int _)⟩
      · cases e
    · cases e
      obtain ⟨v, rfl, R0⟩ := R.one
      obtain ⟨p, xs, rfl, hp, t⟩ := R0.lst
      exact .inl ⟨_, _, rfl, .inl ⟨xs, .of hp, t.length.symm⟩, k.dat rp (.int _)⟩
    · cases e
      obtain ⟨v, rfl, R0⟩ := R.one
      obtain ⟨p, xs, rfl, hp, t, _⟩ := R0.tup
      exact .inl ⟨_, _, rfl, .inr ⟨xs, hp, t.length.symm⟩, k.dat rp (.int _)⟩
    · cases e
      obtain ⟨v, rfl, R0⟩ := R.one
      cases hn : isN _ with
      | true =>
        rw [hn] at k
        obtain ⟨r, rfl⟩ := isN_cons hn
        obtain ⟨a, rfl, ha⟩ := R0.dn
        exact .inr (.inl ⟨F, ι, a, _, rfl, ha, k.dat rp (.int _)⟩)
      | false =>
        rw [hn] at k
        obtain ⟨a, xs, rfl, ha, t⟩ := R0.dk hn
        refine .inr (.inr ⟨a, xs, rfl, ha, ?_⟩)
        rw [t.len]
        exact k.dat rp (.int _)
    · cases e
/-- the length of what a name holds -/
def lenS (s : SV) (M : Sto) : Option Int := match s with
  | .dat d => lenD d
  | .ptr n => match M[n]? with
    | some (.fl d) => lenD d
    | some (.ls ss) => some ss.length
    | some (.dc kvs) => some kvs.length
    | _ => none
theorem lenD_b {d : D} {n : Int} (h : lenD d = some n) : bLen [d] = some (.dat (.int n)) := by
  unfold lenD at h
  split at h
  · rename_i e
    cases h
    exact e
  · cases h
def dLen (fa : DE) : DE := fun Γ M => (fa Γ M).bind fun p => (lenS p.1 p.2).map fun n => (.dat (.int n), p.2)
theorem pd_len {fa : DE} (hg : Gl X "len") (hm : X.mg "len" = none) (ha : PD X e fa) (he : starEach [e] X.env = (false, eval e X.env) :: starEach [] X.env := by rfl) : PD X (.Call (.Name "len" p) [e] [] pos) (dLen fa) :=
  PE.weak (pe_callB call_lenA hg hm boot_len (pa_cons ha pa_nil he) (he := he) (hpl := rfl)) fun σ H Q ⟨F, ι, Γ, M, s, M', w, e, k⟩ => by
    obtain ⟨⟨sa, M1⟩, e1, e⟩ := Option.bind_eq_some_iff.mp e
    obtain ⟨n, e3, e⟩ := Option.map_eq_some_iff.mp e
    cases e
    refine ⟨F, ι, Γ, M, sa, M1, w, e1, fun v ι1 H1 x1 r1 i1 => ?_⟩
    have q : Q (.int n) H1 := k _ ι1 H1 x1 r1 (.dat (.int _))
    have flat : ∀ d, Rdb ((ctx X).at F) ι1 H1 v d → lenD d = some n → rLenA (ctx X) [v] H1 Q := fun d R hd => by
      refine rc_len F ι1 H1 M1 false [v] [d] _ Q r1 (.cons R .nil) (lenD_b hd) fun v4 ι4 H4 x4 r4 i4 => k v4 ι4 H4 (x1.trans x4) r4 i4
    unfold lenS at e3
    cases i1 with
    | dat i1 => exact flat _ (.ofD i1) e3
    | ptr ha =>
      simp only at e3
      split at e3
      · rename_i hm
        cases r1.at_ _ _ _ ha hm with
        | fl h => exact flat _ (.own h) e3
      · rename_i hm
        cases r1.at_ _ _ _ ha hm with
        | ls h t => cases e3; exact .inl ⟨_, _, rfl, .inl ⟨_, .of h, t.length.symm⟩, q⟩
      · rename_i hm
        cases r1.at_ _ _ _ ha hm with
        | dc h t =>
          cases e3
          refine .inr (.inr ⟨_, _, rfl, h, ?_⟩)
          rw [t.length]
          exact q
      · cases e3
theorem pd_abs (hg : Gl X "abs") (hm : X.mg "abs" = none) (ha : PDA X [e] fr) (he : starEach [e] X.env = (false, eval e X.env) :: starEach [] X.env := by rfl) : PD X (.Call (.Name "abs" p) [e] [] pos) (dCB bAbs fr) :=
  pd_cb (id := "abs") (fun F ι H M m xs ds o Q rp R e k => by
    unfold bAbs at e
    split at e
    · cases e
      obtain ⟨v, rfl, R0⟩ := R.one
      cases R0.int
      exact ⟨_, rfl, k.dat rp (.int _)⟩
    · cases e) call_abs hg hm (by decide +kernel) ha (he := he) (hpl := rfl)
theorem pd_int1 (hg : Gl X "int") (hm : X.mg "int" = none) (ha : PDA X [e] fr) (he : starEach [e] X.env = (false, eval e X.env) :: starEach [] X.env := by rfl) : PD X (.Call (.Name "int" p) [e] [] pos) (dCB bInt fr) :=
  pd_cty (T := "int") (fun F ι H M m xs ds o Q rp R e k => by
    unfold bInt at e
    split at e
    · cases e
      obtain ⟨v, rfl, R0⟩ := R.one
      cases R0.int
      exact .inl (.inl ⟨_, rfl, k.dat rp (.int _)⟩)
    · cases e
      obtain ⟨v, rfl, R0⟩ := R.one
      cases R0.bl
      exact .inl (.inr ⟨_, rfl, k.dat rp (.int _)⟩)
    · split at e
      · rename_i hl
        obtain ⟨n, en, e⟩ := Option.map_eq_some_iff.mp e
        cases e
        obtain ⟨v, rfl, R0⟩ := R.one
        cases R0.str
        exact .inr ⟨_, n, rfl, en, hl, k.dat rp (.int _)⟩
      · cases e
    · cases e) (CallR.or call_int1 call_int_str) hg hm (by decide +kernel) ha (he := he) (hpl := rfl)
theorem pd_min2 (hc : X.calm = true) (hg : Gl X "min") (hm : X.mg "min" = none) (ha : PDA X [e, e2] fr) (he : starEach [e, e2] X.env = (false, eval e X.env) :: starEach [e2] X.env := by rfl) (hpl : (backTo pos (starEach [e2] X.env)).any (·.1) = false := by rfl) : PD X (.Call (.Name "min" p) [e, e2] [] pos) (dCB bMin fr) :=
  pd_cb (id := "min") (fun F ι H M m xs ds o Q rp R e k => by
    unfold bMin at e
    split at e
    · cases e
      obtain ⟨v, u, rfl, R1, R2⟩ := R.two
      cases R1.int
      cases R2.int
      exact ⟨_, _, rfl, k.dat rp (.int _)⟩
    · cases e) (call_min2 hc) hg hm (by decide +kernel) ha (he := he) (hpl := hpl)
theorem pd_max2 (hc : X.calm = true) (hg : Gl X "max") (hm : X.mg "max" = none) (ha : PDA X [e, e2] fr) (he : starEach [e, e2] X.env = (false, eval e X.env) :: starEach [e2] X.env := by rfl) (hpl : (backTo pos (starEach [e2] X.env)).any (·.1) = false := by rfl) : PD X (.Call (.Name "max" p) [e, e2] [] pos) (dCB bMax fr) :=
  pd_cb (id := "max") (fun F ι H M m xs ds o Q rp R e k => by
    unfold bMax at e
    split at e
    · cases e
      obtain ⟨v, u, rfl, R1, R2⟩ := R.two
      cases R1.int
      cases R2.int
      exact ⟨_, _, rfl, k.dat rp (.int _)⟩
    · cases e) (call_max2 hc) hg hm (by decide +kernel) ha (he := he) (hpl := hpl)
theorem pd_sum (hc : X.calm = true) (hg : Gl X "sum") (hm : X.mg "sum" = none) (ha : PDA X [e] fr) (he : starEach [e] X.env = (false, eval e X.env) :: starEach [] X.env := by rfl) : PD X (.Call (.Name "sum" p) [e] [] pos) (dCB bSum fr) :=
  pd_cb (id := "sum") (fun F ι H M m xs ds o Q rp R e k => by
    unfold bSum at e
    split at e
    · obtain ⟨ns, e1, rfl⟩ := Option.map_eq_some_iff.mp e
      obtain ⟨v, rfl, R0⟩ := R.one
      obtain ⟨p, xs, rfl, hp, t⟩ := R0.lst
      rw [intsD_eq e1] at t
      rw [t.ints] at hp
      exact ⟨p, ns, rfl, .of hp, k.dat rp (.int _)⟩
    · cases e) (cr_sum hc) hg hm (by decide +kernel) ha (he := he) (hpl := rfl)
theorem pd_all (hc : X.calm = true) (hg : Gl X "all") (hm : X.mg "all" = none) (ha : PDA X [e] fr) (he : starEach [e] X.env = (false, eval e X.env) :: starEach [] X.env := by rfl) : PD X (.Call (.Name "all" p) [e] [] pos) (dCB bAll fr) :=
  pd_cb (id := "all") (fun F ι H M m xs ds o Q rp R e k => by
    unfold bAll at e
    split at e
    · obtain ⟨ns, e1, rfl⟩ := Option.map_eq_some_iff.mp e
      obtain ⟨v, rfl, R0⟩ := R.one
      obtain ⟨p, xs, rfl, hp, t⟩ := R0.lst
      rw [blsD_eq e1] at t
      rw [t.bls] at hp
      exact ⟨p, ns, rfl, .of hp, k.dat rp (.bl _)⟩
    · cases e) (cr_all hc) hg hm (by decide +kernel) ha (he := he) (hpl := rfl)
theorem pd_any (hc : X.calm = true) (hg : Gl X "any") (hm : X.mg "any" = none) (ha : PDA X [e] fr) (he : starEach [e] X.env = (false, eval e X.env) :: starEach [] X.env := by rfl) : PD X (.Call (.Name "any" p) [e] [] pos) (dCB bAny fr) :=
  pd_cb (id := "any") (fun F ι H M m xs ds o Q rp R e k => by
    unfold bAny at e
    split at e
    · obtain ⟨ns, e1, rfl⟩ := Option.map_eq_some_iff.mp e
      obtain ⟨v, rfl, R0⟩ := R.one
      obtain ⟨p, xs, rfl, hp, t⟩ := R0.lst
      rw [blsD_eq e1] at t
      rw [t.bls] at hp
      exact ⟨p, ns, rfl, .of hp, k.dat rp (.bl _)⟩
    · cases e) (cr_any hc) hg hm (by decide +kernel) ha (he := he) (hpl := rfl)
theorem pd_tupleOf (hg : Gl X "tuple") (hm : X.mg "tuple" = none) (ha : PDA X [e] fr) (he : starEach [e] X.env = (false, eval e X.env) :: starEach [] X.env := by rfl) : PD X (.Call (.Name "tuple" p) [e] [] pos) (dCB bTuple fr) :=
  pd_cty (T := "tuple") (fun F ι H M m xs ds o Q rp R e k => by
    unfold bTuple at e
    split at e
    · cases e
      obtain ⟨v, rfl, R0⟩ := R.one
      obtain ⟨p, xs, rfl, hp, t⟩ := R0.lst
      exact ⟨p, xs, rfl, .inl ⟨.of hp, fun l hl => k.newT rp t hl⟩⟩
    · cases e
      obtain ⟨v, rfl, R0⟩ := R.one
      obtain ⟨p, xs, rfl, hp, t, i⟩ := R0.tup
      exact ⟨p, xs, rfl, .inr ⟨hp, k.dat rp i⟩⟩
    · cases e) call_tuple_of hg hm boot_tuple ha (he := he) (hpl := rfl)
theorem pd_listOf {m : Bool} (hg : Gl X "list") (hm : X.mg "list" = none) (ha : PDA X [e] fr) (he : starEach [e] X.env = (false, eval e X.env) :: starEach [] X.env := by rfl) : PD X (.Call (.Name "list" p) [e] [] pos) (dCB bList fr m) :=
  pd_cty (T := "list") (fun F ι H M m xs ds o Q rp R e k => by
    unfold bList at e
    split at e
    · cases e
      obtain ⟨v, rfl, R0⟩ := R.one
      obtain ⟨p, xs, rfl, hp, t⟩ := R0.lst
      exact ⟨p, xs, rfl, .inl (.of hp), fun l hl => k.newL rp t hl⟩
    · cases e
      obtain ⟨v, rfl, R0⟩ := R.one
      obtain ⟨p, xs, rfl, hp, t, i⟩ := R0.tup
      exact ⟨p, xs, rfl, .inr hp, fun l hl => k.newL rp t hl⟩
    · cases e) call_list_of hg hm boot_list ha (he := he) (hpl := rfl)
/-- list(range(n)) -/
def rgD (a b : Int) : List D := (List.range (b - a).toNat).map fun i => PyData.int (a + (i : Nat))
theorem rg_isDs {c : Ct} {ι : List Addr} {H : Hp} (a b : Int) : IsDs c ι H (rgV a b) (rgD a b) := by
  have h := isDs_ints (c := c) (ι := ι) (H := H) ((List.range (b - a).toNat).map fun i => a + (i : Nat))
  rw [List.map_map, List.map_map] at h
  exact h
def oLstRg1 (fa : DE) (m : Bool := false) : DE := fun Γ M => (fa Γ M).bind fun p => match p.1 with
  | .dat (.int n) => if -1000000 ≤ n ∧ n ≤ 1000000 then some ((OR.new (.list (rgD 0 n))).out m p.2) else none
  | _ => none
theorem pd_lstRg1 {m : Bool} {fa : DE} {p2 pos2 : Pos} (hc : X.calm = true) (hg : Gl X "list") (hm : X.mg "list" = none) (hg' : Gl X "range") (hm' : X.mg "range" = none) (ha : PD X a fa) (na : starEach [a] X.env = (false, eval a X.env) :: starEach [] X.env := by rfl)
    (nb : starEach [.Call (.Name "range" p2) [a] [] pos2] X.env = (false, eval (.Call (.Name "range" p2) [a] [] pos2) X.env) :: starEach [] X.env := by rfl) : PD X (.Call (.Name "list" p) [.Call (.Name "range" p2) [a] [] pos2] [] pos) (oLstRg1 fa m) :=
  PE.weak (pe_listRg hc hg hm (prg_1 hg' hm' ha na) nb) fun σ H Q ⟨F, ι, Γ, M, s, M', w, e, k⟩ => by
    obtain ⟨⟨sa, M1⟩, e1, e⟩ := Option.bind_eq_some_iff.mp e
    refine ⟨F, ι, Γ, M, sa, M1, w, e1, fun v ι1 H1 x1 r1 i1 => ?_⟩
    simp only at e
    split at e
    · rename_i n
      split at e
      case isFalse => cases e
      rename_i hn
      replace e := Option.some.inj e
      cases i1 with
      | dat i1 =>
        cases i1
        refine ⟨_, rfl, ?_, fun q hq => ?_⟩
        · exact ⟨by omega, by omega, by omega, by omega, by omega⟩
        · have K : AftO ((ctx X).at F) ι1 H1 M1 m (.new (.list (rgD 0 n))) Q := fun v4 ι4 H4 x4 r4 i4 => by
            simp only [e] at r4 i4
            exact k v4 ι4 H4 (x1.trans x4) r4 i4
          exact K.newL r1 (rg_isDs 0 n) hq
    · cases e
end
end EL
namespace EL
open PySem PySem.Spec PyProof.Rows L2
section
variable {c : Ct} {ι ι' : List Addr} {H H' : Hp} {F F0 : List Addr}
theorem grow_nin (g : ∀ a, a ∈ F → a ∈ F0 ∨ H a = none) {a : Addr} {o : HO} (h : H a = some o) (n : a ∉ F0 ∧ a ∉ ι) : a ∉ F ∧ a ∉ ι := ⟨fun q => (g a q).elim n.1 (fun z => by rw [h] at z; cases z), n.2⟩
mutual
theorem IsD.grow (g : ∀ a, a ∈ F → a ∈ F0 ∨ H a = none) : ∀ {v : V} {d : D}, IsD (c.at F0) ι H v d → IsD (c.at F) ι H v d
  | _, _, .non => .non
  | _, _, .bl b => .bl b
  | _, _, .int i => .int i
  | _, _, .str x => .str x
  | _, _, .lst h ha t => .lst h (grow_nin g h ha) (IsDs.grow g t)
  | _, _, .tup h t => .tup (h.elim (fun q => .inl ⟨q.1, grow_nin g q.1 q.2⟩) .inr) (IsDs.grow g t)
  | _, _, .dK h ha t => .dK h (grow_nin g h ha) (IsKs.grow g t)
  | _, _, .dN h ha t => .dN h (grow_nin g h ha) (IsNs.grow g t)
theorem IsDs.grow (g : ∀ a, a ∈ F → a ∈ F0 ∨ H a = none) : ∀ {v : List V} {d : List D}, IsDs (c.at F0) ι H v d → IsDs (c.at F) ι H v d
  | _, _, .nil => .nil
  | _, _, .cons h t => .cons (IsD.grow g h) (IsDs.grow g t)
theorem IsKs.grow (g : ∀ a, a ∈ F → a ∈ F0 ∨ H a = none) : ∀ {v : List (Key × V)} {d : List (D × D)}, IsKs (c.at F0) ι H v d → IsKs (c.at F) ι H v d
  | _, _, .nil => .nil
  | _, _, .cons h t => .cons (IsD.grow g h) (IsKs.grow g t)
theorem IsNs.grow (g : ∀ a, a ∈ F → a ∈ F0 ∨ H a = none) : ∀ {v : List (NestedKey × Addr × Value)} {d : List (D × D)}, IsNs (c.at F0) ι H v d → IsNs (c.at F) ι H v d
  | _, _, .nil => .nil
  | _, _, .cons hk ok rv h t => .cons (IsD.grow g hk) ok rv (IsD.grow g h) (IsNs.grow g t)
end
mutual
theorem IsD.updF {a : Addr} {o : HO} (ha : a ∈ c.F) : ∀ {v : V} {d : D}, IsD c ι H v d → IsD c ι (upd H a o) v d
  | _, _, .non => .non
  | _, _, .bl b => .bl b
  | _, _, .int i => .int i
  | _, _, .str x => .str x
  | _, _, .lst h n t => .lst (by rw [upd_ne fun z => n.1 (by rw [z]; exact ha)]; exact h) n (IsDs.updF ha t)
  | _, _, .tup h t => .tup (h.elim (fun q => .inl ⟨by rw [upd_ne fun z => q.2.1 (by rw [z]; exact ha)]; exact q.1, q.2⟩) .inr) (IsDs.updF ha t)
  | _, _, .dK h n t => .dK (by rw [upd_ne fun z => n.1 (by rw [z]; exact ha)]; exact h) n (IsKs.updF ha t)
  | _, _, .dN h n t => .dN (by rw [upd_ne fun z => n.1 (by rw [z]; exact ha)]; exact h) n (IsNs.updF ha t)
theorem IsDs.updF {a : Addr} {o : HO} (ha : a ∈ c.F) : ∀ {v : List V} {d : List D}, IsDs c ι H v d → IsDs c ι (upd H a o) v d
  | _, _, .nil => .nil
  | _, _, .cons h t => .cons (IsD.updF ha h) (IsDs.updF ha t)
theorem IsKs.updF {a : Addr} {o : HO} (ha : a ∈ c.F) : ∀ {v : List (Key × V)} {d : List (D × D)}, IsKs c ι H v d → IsKs c ι (upd H a o) v d
  | _, _, .nil => .nil
  | _, _, .cons h t => .cons (IsD.updF ha h) (IsKs.updF ha t)
theorem IsNs.updF {a : Addr} {o : HO} (ha : a ∈ c.F) : ∀ {v : List (NestedKey × Addr × Value)} {d : List (D × D)}, IsNs c ι H v d → IsNs c ι (upd H a o) v d
  | _, _, .nil => .nil
  | _, _, .cons hk ok rv h t => .cons (IsD.updF ha hk) ok rv (IsD.updF ha h) (IsNs.updF ha t)
end
theorem IsS.grow (g : ∀ a, a ∈ F → a ∈ F0 ∨ H a = none) {v : V} {s : SV} (h : IsS (c.at F0) ι H v s) : IsS (c.at F) ι H v s := by
  cases h with
  | dat h => exact .dat (h.grow g)
  | ptr h => exact .ptr h
theorem IsS.updF {a : Addr} {o : HO} (ha : a ∈ c.F) {v : V} {s : SV} (h : IsS c ι H v s) : IsS c ι (upd H a o) v s := by
  cases h with
  | dat h => exact .dat (h.updF ha)
  | ptr h => exact .ptr h
theorem IsSs.grow (g : ∀ a, a ∈ F → a ∈ F0 ∨ H a = none) : ∀ {v : List V} {d : List SV}, IsSs (c.at F0) ι H v d → IsSs (c.at F) ι H v d
  | _, _, .nil => .nil
  | _, _, .cons h t => .cons (h.grow g) (IsSs.grow g t)
theorem IsSs.updF {a : Addr} {o : HO} (ha : a ∈ c.F) : ∀ {v : List V} {d : List SV}, IsSs c ι H v d → IsSs c ι (upd H a o) v d
  | _, _, .nil => .nil
  | _, _, .cons h t => .cons (h.updF ha) (IsSs.updF ha t)
theorem IsTs.grow {κ : Type} (g : ∀ a, a ∈ F → a ∈ F0 ∨ H a = none) : ∀ {v : List (κ × V)} {d : List (κ × SV)}, IsTs (c.at F0) ι H v d → IsTs (c.at F) ι H v d
  | _, _, .nil => .nil
  | _, _, .cons h t => .cons (h.grow g) (IsTs.grow g t)
theorem IsTs.updF {κ : Type} {a : Addr} {o : HO} (ha : a ∈ c.F) : ∀ {v : List (κ × V)} {d : List (κ × SV)}, IsTs c ι H v d → IsTs c ι (upd H a o) v d
  | _, _, .nil => .nil
  | _, _, .cons h t => .cons (h.updF ha) (IsTs.updF ha t)
theorem IsSs.sub (s : ∀ a, a ∈ F ∨ a ∈ ι' → a ∈ F0 ∨ a ∈ ι) (hp : ∀ (n : Nat) (a : Addr), ι[n]? = some a → ι'[n]? = some a) : ∀ {v : List V} {d : List SV}, IsSs (c.at F0) ι H v d → IsSs (c.at F) ι' H v d
  | _, _, .nil => .nil
  | _, _, .cons h t => .cons (h.sub s hp) (IsSs.sub s hp t)
theorem IsTs.sub {κ : Type} (s : ∀ a, a ∈ F ∨ a ∈ ι' → a ∈ F0 ∨ a ∈ ι) (hp : ∀ (n : Nat) (a : Addr), ι[n]? = some a → ι'[n]? = some a) : ∀ {v : List (κ × V)} {d : List (κ × SV)}, IsTs (c.at F0) ι H v d → IsTs (c.at F) ι' H v d
  | _, _, .nil => .nil
  | _, _, .cons h t => .cons (h.sub s hp) (IsTs.sub s hp t)
theorem OwnD.grow (g : ∀ a, a ∈ F → a ∈ F0 ∨ H a = none) {a : Addr} {d : D} (h : OwnD (c.at F0) ι H a d) : OwnD (c.at F) ι H a d := by
  cases h with
  | lst h t => exact .lst h (t.grow g)
  | dK h t => exact .dK h (t.grow g)
  | dN h t => exact .dN h (t.grow g)
theorem Own.grow (g : ∀ a, a ∈ F → a ∈ F0 ∨ H a = none) {a : Addr} {d : Cell} (h : Own (c.at F0) ι H a d) : Own (c.at F) ι H a d := by
  cases h with
  | fl h => exact .fl (h.grow g)
  | ls h t => exact .ls h (t.grow g)
  | dc h t => exact .dc h (t.grow g)
  | ob h m t => exact .ob h m (t.grow g)
  | st h hS nd => exact .st h hS nd
theorem OwnD.updF {b : Addr} {o : HO} (hb : b ∈ c.F) {a : Addr} {d : D} (n : a ≠ b) (h : OwnD c ι H a d) : OwnD c ι (upd H b o) a d := by
  cases h with
  | lst h t => exact .lst (by rw [upd_ne n]; exact h) (t.updF hb)
  | dK h t => exact .dK (by rw [upd_ne n]; exact h) (t.updF hb)
  | dN h t => exact .dN (by rw [upd_ne n]; exact h) (t.updF hb)
theorem Own.updF {b : Addr} {o : HO} (hb : b ∈ c.F) {a : Addr} {d : Cell} (n : a ≠ b) (h : Own c ι H a d) : Own c ι (upd H b o) a d := by
  cases h with
  | fl h => exact .fl (h.updF hb n)
  | ls h t => exact .ls (by rw [upd_ne n]; exact h) (t.updF hb)
  | dc h t => exact .dc (by rw [upd_ne n]; exact h) (t.updF hb)
  | ob h m t => exact .ob (by rw [upd_ne n]; exact h) m (t.updF hb)
  | st h hS nd => exact .st (by rw [upd_ne n]; exact h) hS nd
theorem Own.sub (s : ∀ a, a ∈ F ∨ a ∈ ι' → a ∈ F0 ∨ a ∈ ι) (hp : ∀ (n : Nat) (a : Addr), ι[n]? = some a → ι'[n]? = some a) {a : Addr} {d : Cell} (h : Own (c.at F0) ι H a d) : Own (c.at F) ι' H a d := by
  cases h with
  | fl h => exact .fl (h.sub s)
  | ls h t => exact .ls h (t.sub s hp)
  | dc h t => exact .dc h (t.sub s hp)
  | ob h m t => exact .ob h m (t.sub s hp)
  | st h hS nd => exact .st h hS nd
/-- a new hidden object -/
theorem Rep.hide {M : Sto} (r : Rep (c.at F) ι H M) {p : Addr} {o : HO} (hp : H p = none) : Rep (c.at (p :: F)) ι (upd H p o) M := by
  have g : ∀ a, a ∈ p :: F → a ∈ F ∨ H a = none := fun a h => by
    rcases List.mem_cons.mp h with h | h
    · rw [h]; exact .inr hp
    · exact .inl h
  refine ⟨r.len, r.nd, fun a h => ?_, fun n a d e1 e2 => ?_⟩
  · rcases List.mem_cons.mp h with h | h
    · subst h
      exact ⟨(r.nin hp).2, o, upd_same⟩
    · obtain ⟨h1, u, e⟩ := r.fr a h
      exact ⟨h1, u, by rw [upd_ne (ne_of_none e hp)]; exact e⟩
  · exact ((r.at_ n a d e1 e2).grow (c := c) g).updF (c := c.at (p :: F)) List.mem_cons_self (ne_of_none (r.at_ n a d e1 e2).there.choose_spec hp)
/-- a hidden object is written -/
theorem Rep.writeF {M : Sto} (r : Rep c ι H M) {p : Addr} {o : HO} (hp : p ∈ c.F) : Rep c ι (upd H p o) M := by
  refine ⟨r.len, r.nd, fun a h => ⟨(r.fr a h).1, ?_⟩, fun n a d e1 e2 => (r.at_ n a d e1 e2).updF hp fun z => (r.fr p hp).1 (by rw [← z]; exact List.mem_of_getElem? e1)⟩
  by_cases e : a = p
  · exact ⟨o, by rw [e]; exact upd_same⟩
  · obtain ⟨_, u, e'⟩ := r.fr a h
    exact ⟨u, by rw [upd_ne e]; exact e'⟩
/-- the hidden object is shown: it may change from now on -/
theorem Rep.showP {M : Sto} {p : Addr} {cell : Cell} (r : Rep (c.at (p :: F)) ι H M) (hp : p ∉ F) (ho : Own (c.at (p :: F)) ι H p cell) : Rep (c.at F) (ι ++ [p]) H (M ++ [cell]) := by
  have s : ∀ a, a ∈ F ∨ a ∈ ι ++ [p] → a ∈ p :: F ∨ a ∈ ι := fun a h => by
    rcases h with h | h
    · exact .inl (List.mem_cons_of_mem _ h)
    · rcases List.mem_append.mp h with h | h
      · exact .inr h
      · rw [List.mem_singleton.mp h]; exact .inl List.mem_cons_self
  have hh : ∀ (n : Nat) (a : Addr), ι[n]? = some a → (ι ++ [p])[n]? = some a := fun n a h => by
    rw [List.getElem?_append_left (List.getElem?_eq_some_iff.mp h).1]; exact h
  have hn : p ∉ ι := (r.fr p List.mem_cons_self).1
  refine ⟨by rw [List.length_append, List.length_append, r.len]; rfl, ?_, fun a h => ⟨fun q => ?_, (r.fr a (List.mem_cons_of_mem _ h)).2⟩, fun n a e e1 e2 => ?_⟩
  · rw [List.nodup_append]
    refine ⟨r.nd, by simp, fun a ha b hb z => ?_⟩
    rw [List.mem_singleton.mp hb] at z
    subst z
    exact hn ha
  · rcases List.mem_append.mp q with q | q
    · exact (r.fr a (List.mem_cons_of_mem _ h)).1 q
    · rw [List.mem_singleton.mp q] at h; exact hp h
  · by_cases hlt : n < ι.length
    · have hm : n < M.length := by rw [← r.len]; exact hlt
      rw [List.getElem?_append_left hlt] at e1
      rw [List.getElem?_append_left hm] at e2
      exact (r.at_ n a e e1 e2).sub (c := c) s hh
    · have hn2 : n = ι.length := by
        have := (List.getElem?_eq_some_iff.mp e1).1
        rw [List.length_append, List.length_singleton] at this
        omega
      subst hn2
      rw [List.getElem?_append_right (Nat.le_refl _), Nat.sub_self] at e1
      rw [List.getElem?_append_right (by rw [r.len]; exact Nat.le_refl _), r.len, Nat.sub_self] at e2
      have q1 : p = a := Option.some.inj e1
      have q2 : cell = e := Option.some.inj e2
      subst q1 q2
      exact ho.sub (c := c) s hh
/-- the hidden object is shown: it is not to change any more -/
theorem Rep.showD {M : Sto} {p : Addr} (r : Rep (c.at (p :: F)) ι H M) : Rep (c.at F) ι H M := by
  have s : ∀ a, a ∈ F ∨ a ∈ ι → a ∈ p :: F ∨ a ∈ ι := fun a h => h.imp (List.mem_cons_of_mem _) id
  exact ⟨r.len, r.nd, fun a h => r.fr a (List.mem_cons_of_mem _ h), fun n a e e1 e2 => (r.at_ n a e e1 e2).sub (c := c) s fun _ _ h => h⟩
end
/-- as Ext, but hidden objects (F) may have been written -/
structure ExtF (F : List Addr) (ι : List Addr) (H : Hp) (ι' : List Addr) (H' : Hp) : Prop where
  pre : ∃ l, ι' = ι ++ l ∧ ∀ a ∈ l, H a = none
  keep : ∀ a o, a ∉ F → a ∉ ι → H a = some o → H' a = some o
section
variable {c : Ct} {ι ι' ι2 : List Addr} {H H' H2 : Hp} {F : List Addr}
theorem Ext.toF (e : Ext ι H ι' H') : ExtF F ι H ι' H' := ⟨e.pre, fun a o _ h => e.keep a o h⟩
theorem ExtF.nin (e : ExtF F ι H ι' H') {a : Addr} {o : HO} (h : H a = some o) (hn : a ∉ ι) : a ∉ ι' := by
  obtain ⟨l, rfl, hl⟩ := e.pre
  intro hm
  rcases List.mem_append.mp hm with q | q
  · exact hn q
  · rw [hl a q] at h; cases h
theorem ExtF.at (e : ExtF F ι H ι' H') {n : Nat} {a : Addr} (h : ι[n]? = some a) : ι'[n]? = some a := by
  obtain ⟨l, rfl, _⟩ := e.pre
  rw [List.getElem?_append_left (List.getElem?_eq_some_iff.mp h).1]
  exact h
theorem ExtF.trans (e : ExtF F ι H ι' H') (f : Ext ι' H' ι2 H2) (d : ∀ a, H' a = none → H a = none) : ExtF F ι H ι2 H2 := by
  obtain ⟨l, rfl, hl⟩ := e.pre
  obtain ⟨l2, rfl, hl2⟩ := f.pre
  refine ⟨⟨l ++ l2, by simp, fun a ha => ?_⟩, fun a o nf hn h => ?_⟩
  · rcases List.mem_append.mp ha with h | h
    · exact hl a h
    · exact d a (hl2 a h)
  · refine f.keep a o (fun hm => ?_) (e.keep a o nf hn h)
    rcases List.mem_append.mp hm with q | q
    · exact hn q
    · rw [hl a q] at h; cases h
theorem ExtF.transF (e : ExtF F ι H ι' H') (f : ExtF F ι' H' ι2 H2) (d : ∀ a, H' a = none → H a = none) : ExtF F ι H ι2 H2 := by
  obtain ⟨l, rfl, hl⟩ := e.pre
  obtain ⟨l2, rfl, hl2⟩ := f.pre
  refine ⟨⟨l ++ l2, by simp, fun a ha => ?_⟩, fun a o nf hn h => ?_⟩
  · rcases List.mem_append.mp ha with h | h
    · exact hl a h
    · exact d a (hl2 a h)
  · refine f.keep a o nf (fun hm => ?_) (e.keep a o nf hn h)
    rcases List.mem_append.mp hm with q | q
    · exact hn q
    · rw [hl a q] at h; cases h
mutual
theorem IsD.monoF (e : ExtF c.F ι H ι' H') : ∀ {v : V} {d : D}, IsD c ι H v d → IsD c ι' H' v d
  | _, _, .non => .non
  | _, _, .bl b => .bl b
  | _, _, .int i => .int i
  | _, _, .str x => .str x
  | _, _, .lst h ha t => .lst (e.keep _ _ ha.1 ha.2 h) ⟨ha.1, e.nin h ha.2⟩ (IsDs.monoF e t)
  | _, _, .tup h t => .tup (h.elim (fun q => .inl ⟨e.keep _ _ q.2.1 q.2.2 q.1, q.2.1, e.nin q.1 q.2.2⟩) .inr) (IsDs.monoF e t)
  | _, _, .dK h ha t => .dK (e.keep _ _ ha.1 ha.2 h) ⟨ha.1, e.nin h ha.2⟩ (IsKs.monoF e t)
  | _, _, .dN h ha t => .dN (e.keep _ _ ha.1 ha.2 h) ⟨ha.1, e.nin h ha.2⟩ (IsNs.monoF e t)
theorem IsDs.monoF (e : ExtF c.F ι H ι' H') : ∀ {v : List V} {d : List D}, IsDs c ι H v d → IsDs c ι' H' v d
  | _, _, .nil => .nil
  | _, _, .cons h t => .cons (IsD.monoF e h) (IsDs.monoF e t)
theorem IsKs.monoF (e : ExtF c.F ι H ι' H') : ∀ {v : List (Key × V)} {d : List (D × D)}, IsKs c ι H v d → IsKs c ι' H' v d
  | _, _, .nil => .nil
  | _, _, .cons h t => .cons (IsD.monoF e h) (IsKs.monoF e t)
theorem IsNs.monoF (e : ExtF c.F ι H ι' H') : ∀ {v : List (NestedKey × Addr × Value)} {d : List (D × D)}, IsNs c ι H v d → IsNs c ι' H' v d
  | _, _, .nil => .nil
  | _, _, .cons hk ok rv h t => .cons (IsD.monoF e hk) ok rv (IsD.monoF e h) (IsNs.monoF e t)
end
theorem IsS.monoF (e : ExtF c.F ι H ι' H') {v : V} {s : SV} (h : IsS c ι H v s) : IsS c ι' H' v s := by
  cases h with
  | dat h => exact .dat (h.monoF e)
  | ptr h => exact .ptr (e.at h)
end
end EL
namespace EL
open PySem PySem.Spec PyProof.Rows L2

/-- an exception: its class, its fields -/
structure Er where
  cls : Str
  fs : List (Str × D)
def IsEr (c : Ct) (ι : List Addr) (H : Hp) (cls : Value) (d : Option Addr) (e : Er) : Prop :=
  ∃ A, c.mg e.cls = some (.ref A) ∧ cls = .ref A ∧ ((e.fs = [] ∧ d = none) ∨ ∃ da xs, e.fs ≠ [] ∧ d = some da ∧ H da = some (.xd xs) ∧ IsTs c ι H xs (e.fs.map fun p => (p.1, .dat p.2)))
inductive Fl where
  | nx
  | rt (s : SV)
  | bk
  | ct
  | ex (e : Er)
abbrev DS := Ga → Sto → Option (Fl × Ga × Sto)
def Out (c : Ct) (ι : List Addr) (σ : L2.St) (H : Hp) (E : Ends) (W : WX) : Fl → Prop
  | .nx => E.nx σ H
  | .bk => E.bk σ H
  | .ct => E.ct σ H
  | .rt s => ∀ v, IsS c ι H v s → E.rt v H
  | .ex e => ∀ cls d, IsEr c ι H cls d e → W cls d σ H
def rdS (c : Ct) (W : WX) (f : DS) : TS := fun E σ H => ∃ F ι Γ M fl Γ' M', Wd (c.at F) ι σ H Γ M ∧ f Γ M = some (fl, Γ', M') ∧
  ∀ ι' σ' H', Ext ι H ι' H' → Wd (c.at F) ι' σ' H' Γ' M' → Out (c.at F) ι' σ' H' E W fl
abbrev PDS (X : Cx) (W : WX) (st : Stmt) (f : DS) : Prop := PS X st (rdS (ctx X) W f)
abbrev PDSs (X : Cx) (W : WX) (st : List Stmt) (f : DS) : Prop := PSs X st (rdS (ctx X) W f)

def sNil : DS := fun Γ M => some (.nx, Γ, M)
def sSeq (f g : DS) : DS := fun Γ M => (f Γ M).bind fun r => match r.1 with
  | .nx => g r.2.1 r.2.2
  | fl => some (fl, r.2.1, r.2.2)
def sAsg (i : Nat) (fe : DE) : DS := fun Γ M => (fe Γ M).bind fun p => some (.nx, Γ.set i (some p.1), p.2)
def sRet (fe : DE) : DS := fun Γ M => (fe Γ M).bind fun p => some (.rt p.1, Γ, p.2)
def sRetN : DS := fun Γ M => some (.rt (.dat .none), Γ, M)
def sExpr (fe : DE) : DS := fun Γ M => (fe Γ M).bind fun p => some (.nx, Γ, p.2)
def sIf (ft : DT) (f g : DS) : DS := fun Γ M => (ft Γ M).bind fun p => if p.1 = true then f Γ p.2 else g Γ p.2
def sBk : DS := fun Γ M => some (.bk, Γ, M)
def sCt : DS := fun Γ M => some (.ct, Γ, M)

theorem Wd.set {c : Ct} {ι : List Addr} {σ : L2.St} {H : Hp} {Γ : Ga} {M : Sto} (w : Wd c ι σ H Γ M) {v : V} {s : SV} (h : IsS c ι H v s) (i : Nat) : Wd c ι (σ.set i (some v)) H (Γ.set i (some s)) M := by
  refine ⟨w.rep, by rw [List.length_set, List.length_set]; exact w.len, fun j t e => ?_⟩
  by_cases hj : j = i
  · subst hj
    have hl : j < Γ.length := by
      have := (List.getElem?_eq_some_iff.mp e).1
      rwa [List.length_set] at this
    rw [List.getElem?_set_self hl] at e
    have e' := Option.some.inj (Option.some.inj e)
    subst e'
    exact ⟨v, List.getElem?_set_self (by rw [w.len]; exact hl), h⟩
  · rw [List.getElem?_set_ne (Ne.symm hj)] at e
    obtain ⟨u, h1, h2⟩ := w.at_ j t e
    exact ⟨u, by rw [List.getElem?_set_ne (Ne.symm hj)]; exact h1, h2⟩

section
variable {W : WX} {X : Cx} {st : Stmt} {rest a b : List Stmt} {f g : DS} {e : Expr} {fe : DE} {ft : DT} {pos : Pos}
theorem pds_nil : PDSs X W [] sNil := PSs.weak pss_nil fun E σ H ⟨F, ι, Γ, M, fl, Γ', M', w, e, k⟩ => by
  cases e
  exact k ι σ H .refl w
theorem pds_cons (h1 : PDS X W st f) (h2 : PDSs X W rest g) : PDSs X W (st :: rest) (sSeq f g) :=
  PSs.weak (pss_cons h1 h2) fun E σ H ⟨F, ι, Γ, M, fl, Γ', M', w, e, k⟩ => by
    obtain ⟨⟨f1, Γ1, M1⟩, e1, e⟩ := Option.bind_eq_some_iff.mp e
    refine ⟨F, ι, Γ, M, f1, Γ1, M1, w, e1, fun ι1 σ1 H1 x1 w1 => ?_⟩
    cases f1 with
    | nx => exact ⟨F, ι1, Γ1, M1, fl, Γ', M', w1, e, fun ι2 σ2 H2 x2 w2 => k ι2 σ2 H2 (x1.trans x2) w2⟩
    | rt s => cases e; exact k ι1 σ1 H1 x1 w1
    | bk => cases e; exact k ι1 σ1 H1 x1 w1
    | ct => cases e; exact k ι1 σ1 H1 x1 w1
    | ex s => cases e; exact k ι1 σ1 H1 x1 w1
theorem pds_one (h1 : PDS X W st f) : PDSs X W [st] f := pss_one h1
theorem rd_asg {i : Nat} {σ : L2.St} {H : Hp} {E : Ends} (q : rdS (ctx X) W (sAsg i fe) E σ H) : tAsg (rdE (ctx X) fe) (gName i) E σ H := by
  obtain ⟨F, ι, Γ, M, fl, Γ', M', w, e, k⟩ := q
  obtain ⟨⟨s, M1⟩, e1, e⟩ := Option.bind_eq_some_iff.mp e
  cases e
  exact ⟨F, ι, Γ, M, s, M1, w, e1, fun v ι1 H1 x1 r1 i1 => k ι1 _ H1 x1 ((w.next x1 r1).set i1 i)⟩
theorem ps_asgD {i : Nat} {t : TE} {x : Str} {pos' : Pos} (h : PS X (.Assign [.Name x pos'] e pos) (tAsg t (gName i))) (w : ∀ σ H Q, rdE (ctx X) fe σ H Q → t σ H Q) : PDS X W (.Assign [.Name x pos'] e pos) (sAsg i fe) :=
  PS.weak h fun E σ H q => w _ _ _ (rd_asg q)
theorem pds_set (i : Nat) {x : Str} {pos' : Pos} (he : PD X e fe) (hN : X.N.Nodup) (hi : X.N[i]? = some x := by rfl) (hx : Loc X.env.scope x := by first | exact .inl rfl | exact .inr rfl) (hs : swapsWith e (some (.Name x pos')) pos.line X.env = pure false := by rfl) (hf : X.fn x = true ∨ X.env.scope.names.lookup x = some .local := by first | exact .inl rfl | exact .inr rfl | assumption) :
    PDS X W (.Assign [.Name x pos'] e pos) (sAsg i fe) := ps_asgD (ps_set hN hi hx he hs hf) fun _ _ _ q => q
theorem pds_ret (he : PD X e fe) : PDS X W (.Return (some e) pos) (sRet fe) := PS.weak (ps_ret he) fun E σ H ⟨F, ι, Γ, M, fl, Γ', M', w, e, k⟩ => by
  obtain ⟨⟨s, M1⟩, e1, e⟩ := Option.bind_eq_some_iff.mp e
  cases e
  exact ⟨F, ι, Γ, M, s, M1, w, e1, fun v ι1 H1 x1 r1 i1 => k ι1 σ H1 x1 (w.next x1 r1) v i1⟩
theorem pds_retN : PDS X W (.Return none pos) sRetN := PS.weak ps_retN fun E σ H ⟨F, ι, Γ, M, fl, Γ', M', w, e, k⟩ => by
  cases e
  exact k ι σ H .refl w _ (.dat .non)
theorem pds_expr (he : PD X e fe) (hs : swapsWith e none pos.line X.env = pure false := by rfl) : PDS X W (.Expr e pos) (sExpr fe) := PS.weak (ps_expr he hs) fun E σ H ⟨F, ι, Γ, M, fl, Γ', M', w, e, k⟩ => by
  obtain ⟨⟨s, M1⟩, e1, e⟩ := Option.bind_eq_some_iff.mp e
  cases e
  exact ⟨F, ι, Γ, M, s, M1, w, e1, fun v ι1 H1 x1 r1 i1 => k ι1 σ H1 x1 (w.next x1 r1)⟩
theorem pds_if {c : Expr} (hc : PDT X c ft) (ha : PDSs X W a f) (hb : PDSs X W b g) : PDS X W (.If c a b pos) (sIf ft f g) := PS.weak (ps_if hc ha hb) fun E σ H ⟨F, ι, Γ, M, fl, Γ', M', w, e, k⟩ => by
  obtain ⟨⟨t, M1⟩, e1, e⟩ := Option.bind_eq_some_iff.mp e
  refine ⟨F, ι, Γ, M, t, M1, w, e1, fun ι1 H1 x1 r1 => ?_⟩
  cases t with
  | true =>
    rw [if_pos rfl] at e
    exact iteT ⟨F, ι1, Γ, M1, fl, Γ', M', w.next x1 r1, e, fun ι2 σ2 H2 x2 w2 => k ι2 σ2 H2 (x1.trans x2) w2⟩
  | false =>
    rw [if_neg Bool.false_ne_true] at e
    exact iteF ⟨F, ι1, Γ, M1, fl, Γ', M', w.next x1 r1, e, fun ι2 σ2 H2 x2 w2 => k ι2 σ2 H2 (x1.trans x2) w2⟩
theorem pds_pass : PDS X W (.Pass pos) sNil := PS.weak ps_pass fun E σ H ⟨F, ι, Γ, M, fl, Γ', M', w, e, k⟩ => by
  cases e
  exact k ι σ H .refl w
theorem pds_break : PDS X W (.Break pos) sBk := PS.weak ps_break fun E σ H ⟨F, ι, Γ, M, fl, Γ', M', w, e, k⟩ => by
  cases e
  exact k ι σ H .refl w
theorem pds_continue : PDS X W (.Continue pos) sCt := PS.weak ps_continue fun E σ H ⟨F, ι, Γ, M, fl, Γ', M', w, e, k⟩ => by
  cases e
  exact k ι σ H .refl w
end

abbrev DG := SV → Sto → Ga → Option Ga
def gNm (i : Nat) : DG := fun s _ Γ => some (Γ.set i (some s))
def gEach : List DG → List SV → Sto → Ga → Option Ga
  | [], [], _, Γ => some Γ
  | g :: gs, d :: ds, M, Γ => (g d M Γ).bind fun Γ1 => gEach gs ds M Γ1
  | _, _, _, _ => none
def gTp (gs : List DG) : DG := fun d M Γ => match d with
  | .dat (.tuple ds) => gEach gs (ds.map .dat) M Γ
  | _ => none
/-- σ' differs from σ at the slots ts alone -/
def AtMost (ts : List Nat) (σ σ' : L2.St) : Prop := σ'.length = σ.length ∧ ∀ k, k ∉ ts → σ'[k]? = σ[k]?
theorem AtMost.refl {ts : List Nat} {σ : L2.St} : AtMost ts σ σ := ⟨rfl, fun _ _ => rfl⟩
theorem AtMost.trans {ts : List Nat} {σ σ1 σ2 : L2.St} (a : AtMost ts σ σ1) (b : AtMost ts σ1 σ2) : AtMost ts σ σ2 := ⟨b.1.trans a.1, fun k h => (b.2 k h).trans (a.2 k h)⟩
theorem AtMost.mono {ts us : List Nat} {σ σ1 : L2.St} (a : AtMost ts σ σ1) (h : ∀ k ∈ ts, k ∈ us) : AtMost us σ σ1 := ⟨a.1, fun k hk => a.2 k fun q => hk (h k q)⟩
theorem wipe_at {σ : L2.St} : ∀ {vs : List Nat} {k : Nat}, (wipe σ vs)[k]? = if k ∈ vs then (σ[k]?).map fun _ => none else σ[k]?
  | [], k => by simp [wipe]
  | v :: vs, k => by
    unfold wipe
    by_cases hk : k = v
    · subst hk
      rw [if_pos List.mem_cons_self]
      by_cases hl : k < σ.length
      · rw [List.getElem?_set_self (by rw [wipe_length]; exact hl), List.getElem?_eq_getElem hl]; rfl
      · rw [List.getElem?_eq_none (by rw [List.length_set, wipe_length]; omega), List.getElem?_eq_none (by omega)]; rfl
    · rw [List.getElem?_set_ne (Ne.symm hk), wipe_at (vs := vs)]
      simp only [List.mem_cons, hk, false_or]
theorem AtMost.wipe {vs : List Nat} {σ σ2 : L2.St} (a : AtMost vs σ σ2) : L2.wipe σ2 vs = L2.wipe σ vs := by
  apply List.ext_getElem?
  intro k
  rw [wipe_at, wipe_at]
  by_cases hk : k ∈ vs
  · rw [if_pos hk, if_pos hk]
    by_cases hl : k < σ.length
    · rw [List.getElem?_eq_getElem hl, List.getElem?_eq_getElem (by rw [a.1]; exact hl)]; rfl
    · rw [List.getElem?_eq_none (show σ2.length ≤ k by rw [a.1]; omega), List.getElem?_eq_none (show σ.length ≤ k by omega)]
  · rw [if_neg hk, if_neg hk]
    exact a.2 k hk
def rdG (c : Ct) (ts : List Nat) (g : DG) : TG := fun v σ H Q => ∃ F ι Γ M d Γ', Wd (c.at F) ι σ H Γ M ∧ IsS (c.at F) ι H v d ∧ g d M Γ = some Γ' ∧ ∀ σ', AtMost ts σ σ' → Wd (c.at F) ι σ' H Γ' M → Q σ' H
def rdGs (c : Ct) (ts : List Nat) (gs : List DG) : TGs := fun vs σ H Q => ∃ F ι Γ M ds Γ', Wd (c.at F) ι σ H Γ M ∧ IsSs (c.at F) ι H vs ds ∧ gEach gs ds M Γ = some Γ' ∧ ∀ σ', AtMost ts σ σ' → Wd (c.at F) ι σ' H Γ' M → Q σ' H
abbrev PDG (X : Cx) (tg : Expr) (ts : List Nat) (g : DG) : Prop := PG X tg (rdG (ctx X) ts g)
abbrev PDGs (X : Cx) (tg : List Expr) (ts : List Nat) (g : List DG) : Prop := PGs X tg (rdGs (ctx X) ts g)
theorem PG.weak {X : Cx} {e : Expr} {t t' : TG} (h : PG X e t) (w : ∀ v σ H Q, t' v σ H Q → t v σ H Q) : PG X e t' := ⟨fun pins s σ H v u Q I r q => h.run pins s σ H v u Q I r (w v σ H Q q)⟩
theorem PGs.weak {X : Cx} {e : List Expr} {t t' : TGs} (h : PGs X e t) (w : ∀ v σ H Q, t' v σ H Q → t v σ H Q) : PGs X e t' := ⟨fun pins s σ H v u Q I r q => h.run pins s σ H v u Q I r (w v σ H Q q)⟩
section
variable {X : Cx} {pos : Pos} {e : Expr} {es : List Expr} {ts : List Nat} {g : DG} {gs : List DG}
theorem at_set (i : Nat) (v : Option V) (σ : L2.St) {ts : List Nat} (h : i ∈ ts) : AtMost ts σ (σ.set i v) := ⟨List.length_set .., fun k hk => List.getElem?_set_ne fun q : i = k => hk (by rw [← q]; exact h)⟩
theorem pdg_name (i : Nat) {x : Str} (hN : X.N.Nodup) (hi : X.N[i]? = some x := by rfl) (hx : Loc X.env.scope x := by first | exact .inl rfl | exact .inr rfl) (hf : X.fn x = true ∨ X.env.scope.names.lookup x = some .local := by first | exact .inl rfl | exact .inr rfl | assumption) (ht : i ∈ ts := by decide) : PDG X (.Name x pos) ts (gNm i) :=
  PG.weak (pg_name hN hi hx hf) fun v σ H Q ⟨F, ι, Γ, M, d, Γ', w, hd, e, k⟩ => by
    cases e
    exact k _ (at_set i _ σ ht) (w.set hd i)
theorem pdgs_nil : PDGs X [] ts [] := PGs.weak pgs_nil fun v σ H Q ⟨F, ι, Γ, M, d, Γ', w, hd, e, k⟩ => by
  cases hd with
  | nil =>
    cases e
    exact ⟨rfl, k σ .refl w⟩
  | cons => cases e
theorem pdgs_cons (h1 : PDG X e ts g) (h2 : PDGs X es ts gs) (hs : (assignEach (e :: es) X.env).map (·.2) = assign e X.env :: (assignEach es X.env).map (·.2) := by rfl) : PDGs X (e :: es) ts (g :: gs) :=
  PGs.weak (pgs_cons h1 h2 hs) fun v σ H Q ⟨F, ι, Γ, M, d, Γ', w, hd, e, k⟩ => by
    cases hd with
    | nil => cases e
    | cons h t =>
      obtain ⟨Γ1, e1, e⟩ := Option.bind_eq_some_iff.mp e
      exact ⟨_, _, rfl, F, ι, Γ, M, _, Γ1, w, h, e1, fun σ1 a1 w1 => ⟨F, ι, Γ1, M, _, Γ', w1, t, e, fun σ2 a2 w2 => k σ2 (a1.trans a2) w2⟩⟩
theorem gEach_len : ∀ {gs : List DG} {ds : List SV} {M : Sto} {Γ Γ' : Ga}, gEach gs ds M Γ = some Γ' → ds.length = gs.length
  | [], [], _, _, _, _ => rfl
  | g :: gs, d :: ds, _, Γ, Γ', e => by
    obtain ⟨Γ1, _, e⟩ := Option.bind_eq_some_iff.mp e
    rw [List.length_cons, List.length_cons, gEach_len e]
  | [], _ :: _, _, _, _, e => by cases e
  | _ :: _, [], _, _, _, e => by cases e
theorem pdg_tup {k : Nat} (hc : X.calm = true) (h : PDGs X es ts gs) (hn : (assignEach es X.env).length = gs.length := by rfl) (hst : (assignEach es X.env).findIdx? (·.1) = none := by rfl) : PDG X (.Tuple es k pos) ts (gTp gs) :=
  PG.weak (pg_tup hc h hn hst) fun v σ H Q ⟨F, ι, Γ, M, d, Γ', w, hd, e, k⟩ => by
    unfold gTp at e
    split at e
    · cases hd with
      | dat hd =>
      obtain ⟨a, xs, rfl, hp, t, _⟩ := (Rdb.ofD hd).tup
      have hl := gEach_len e
      rw [List.length_map] at hl
      exact ⟨a, xs, rfl, hp, by rw [t.length]; exact hl, F, ι, Γ, M, _, Γ', w, t.ss, e, k⟩
    · cases e
end
/-- a, b = e -/
def sTup (fe : DE) (g : DG) : DS := fun Γ M => (fe Γ M).bind fun p => (g p.1 p.2 Γ).map fun Γ' => (.nx, Γ', p.2)
theorem pds_tup {W : WX} {X : Cx} {tg e : Expr} {fe : DE} {ts : List Nat} {g : DG} {pos : Pos} (he : PD X e fe) (hg : PDG X tg ts g) (hs : swapsWithSole [tg] e pos.line X.env = pure false := by rfl) (hw : swappedStores [tg] e X.env = pure none := by rfl)
    (h1 : (assignEach [tg] X.env).map (·.2) = [assign tg X.env] := by rfl) : PDS X W (.Assign [tg] e pos) (sTup fe g) :=
  PS.weak (ps_asg he hg hs hw h1) fun E σ H ⟨F, ι, Γ, M, fl, Γ', M', w, e, k⟩ => by
    obtain ⟨⟨s, M1⟩, e1, e⟩ := Option.bind_eq_some_iff.mp e
    refine ⟨F, ι, Γ, M, s, M1, w, e1, fun v ι1 H1 x1 r1 i1 => ?_⟩
    obtain ⟨Γ1, e2, e⟩ := Option.map_eq_some_iff.mp e
    cases e
    exact ⟨F, ι1, Γ, M1, s, Γ', w.next x1 r1, i1, e2, fun σ' a w' => k ι1 σ' H1 x1 w'⟩

abbrev DIt := Sto → Nat → Option (Option SV)
abbrev DI := Ga → Sto → Option ((DIt × Nat) × Sto)
def JOk (c : Ct) (F0 : List Addr) (ι0 : List Addr) (H0 : Hp) (J : It) (it : DIt) : Prop := ∀ F ι H M i, (∀ a, a ∈ F → a ∈ F0 ∨ H0 a = none) → ExtF F ι0 H0 ι H → Rep (c.at F) ι H M → (it M i = some none → J.stop i H) ∧
  ∀ d, it M i = some (some d) → J.go i H ∧ ∀ x H', J.yld i H x H' → Ext ι H ι H' ∧ Rep (c.at F) ι H' M ∧ IsS (c.at F) ι H' x d
def rdI (c : Ct) (f : DI) : TI := fun σ H R => ∃ F ι Γ M it M', Wd (c.at F) ι σ H Γ M ∧ f Γ M = some (it, M') ∧ ∀ J ι' H', Ext ι H ι' H' → Rep (c.at F) ι' H' M' → JOk c F ι' H' J it.1 → R J H'
abbrev PDI (X : Cx) (tg e : Expr) (f : DI) : Prop := PI X tg e (rdI (ctx X) f)
theorem PI.weak {X : Cx} {tg e : Expr} {t t' : TI} (h : PI X tg e t) (w : ∀ σ H Q, t' σ H Q → t σ H Q) : PI X tg e t' := ⟨fun pins s σ H Q I q => h.run pins s σ H Q I (w σ H Q q)⟩
def itD (ds : List D) : DIt := fun _ i => some (ds[i]?.map .dat)
def itP (n : Nat) : DIt := fun M i => match M[n]? with
  | some (.fl (.list ds)) => some (ds[i]?.map .dat)
  | some (.ls ss) => some ss[i]?
  | _ => none
def sgnD (z : Str) : List D := z.cps.toList.map fun c => PyData.str ⟨#[c]⟩
def iSeq (fe : DE) : DI := fun Γ M => (fe Γ M).bind fun p => match p.1 with
  | .dat (.list ds) => some ((itD ds, ds.length), p.2)
  | .dat (.tuple ds) => some ((itD ds, ds.length), p.2)
  | .dat (.str z) => some ((itD (sgnD z), (sgnD z).length), p.2)
  | .ptr n => match p.2[n]? with
    | some (.fl (.list ds)) => some ((itP n, ds.length), p.2)
    | some (.ls ss) => some ((itP n, ss.length), p.2)
    | _ => none
  | _ => none
section
variable {X : Cx} {tg : Expr}
theorem pi_seqA {l : Expr} {tl : TE} (hl : PE X l tl) : PI X tg l (fun σ H R => tl σ H fun x H1 => (∃ a, x = .ref a ∧ (((∃ xs, SqL X.K H1 a xs) ∧ R (Itl X.K a) H1) ∨ ((∃ xs, SqT X.K H1 a xs) ∧ R (Itt X.K a) H1))) ∨ ∃ z, x = .str z ∧ R (Its z) H1) := by
  refine ⟨fun pins s σ H R I h => ?_⟩
  refine thn (hl.run pins s σ H _ I h) fun v s1 ⟨x, H1, I1, r1, q1⟩ => ?_
  rcases q1 with q1 | ⟨z, e, q⟩
  case inr =>
    subst e
    obtain ⟨t, rfl⟩ := r1
    cases ha : z.cps.all (· < 128)
    · exact wpAny_pyIter_wide ha (pi_one (tk := s1.toks) I1 _ (turn_str _ z t "str_iterator" (.inr rfl)) ⟨_, Heap.get?_push_size _ rfl, rfl, rfl⟩ q)
    · exact wpAny_pyIter_ascii ha (pi_one (tk := s1.toks) I1 _ (turn_str _ z t "str_ascii_iterator" (.inl rfl)) ⟨_, Heap.get?_push_size _ rfl, rfl, rfl⟩ q)
  obtain ⟨a, e, q⟩ := q1
  subst e
  cases r1
  rcases q with ⟨⟨xs, hq⟩, q⟩ | ⟨⟨xs, hq⟩, q⟩
  · obtain ⟨its, rv, p, hz⟩ := I1.list hq
    refine wpAny_pyIter_list p.isList ?_
    refine ⟨s1.heap.objs.size, [s1.heap.objs.size], _, _, H1, rfl, I1.kept (t' := s1.toks) fun b o e => Heap.get?_push_of_some _ e, turn_list a _, ⟨_, Heap.get?_push_size _ rfl, rfl, rfl⟩, fun b hb => ?_, q⟩
    have e : b = s1.heap.objs.size := by simpa using hb
    subst e
    exact I1.fpOk (Nat.le_refl _) (I1.hok.fresh (Nat.le_refl _))
  · obtain ⟨its, rv, p, hz⟩ := I1.tuple hq
    refine wpAny_pyIter_tuple (show s1.heap.IsTuple a its.toArray from p) ?_
    refine ⟨s1.heap.objs.size, [s1.heap.objs.size], _, _, H1, rfl, I1.kept (t' := s1.toks) fun b o e => Heap.get?_push_of_some _ e, turn_tuple a _, ⟨_, Heap.get?_push_size _ rfl, rfl, rfl⟩, fun b hb => ?_, q⟩
    have e : b = s1.heap.objs.size := by simpa using hb
    subst e
    exact I1.fpOk (Nat.le_refl _) (I1.hok.fresh (Nat.le_refl _))
theorem isDs_at {c : Ct} {ι : List Addr} {H : Hp} {xs : List V} {ds : List D} {i : Nat} (t : IsDs c ι H xs ds) : (ds[i]? = none → xs.length ≤ i) ∧ ∀ d, ds[i]? = some d → ∃ v, xs[i]? = some v ∧ IsD c ι H v d :=
  ⟨fun e => by rw [t.length]; exact List.getElem?_eq_none_iff.mp e, fun d e => t.get e⟩
theorem isDs_atS {c : Ct} {ι : List Addr} {H : Hp} {xs : List V} {ds : List D} {i : Nat} (t : IsDs c ι H xs ds) : (ds[i]?.map SV.dat = none → xs.length ≤ i) ∧ ∀ d, ds[i]?.map SV.dat = some d → ∃ v, xs[i]? = some v ∧ IsS c ι H v d :=
  ⟨fun e => (isDs_at t).1 (Option.map_eq_none_iff.mp e), fun d e => by
    obtain ⟨d', e1, rfl⟩ := Option.map_eq_some_iff.mp e
    obtain ⟨v, h1, h2⟩ := (isDs_at t).2 d' e1
    exact ⟨v, h1, .dat h2⟩⟩
theorem isSs_at {c : Ct} {ι : List Addr} {H : Hp} {xs : List V} {ds : List SV} {i : Nat} (t : IsSs c ι H xs ds) : (ds[i]? = none → xs.length ≤ i) ∧ ∀ d, ds[i]? = some d → ∃ v, xs[i]? = some v ∧ IsS c ι H v d :=
  ⟨fun e => by rw [t.length]; exact List.getElem?_eq_none_iff.mp e, fun d e => t.get e⟩
theorem jok_lst {c : Ct} {F0 ι0 : List Addr} {H0 : Hp} {a : Addr} {ds : List D} (h : IsD (c.at F0) ι0 H0 (.ref a) (.list ds)) : JOk c F0 ι0 H0 (Itl c.K a) (itD ds) := fun F ι H M i g x r => by
  have h' := (h.grow (c := c) g).monoF (c := c.at F) x
  cases h' with
  | @lst _ xs _ hp _ t =>
    obtain ⟨t1, t2⟩ := isDs_atS (i := i) t
    refine ⟨fun e => ⟨xs, .of hp, t1 (Option.some.inj e)⟩, fun d e => ?_⟩
    obtain ⟨v, e1, hv⟩ := t2 d (Option.some.inj e)
    refine ⟨⟨xs, v, .of hp, e1⟩, fun y H' ⟨q1, q2⟩ => ?_⟩
    subst q1
    have := q2 xs (.of hp)
    rw [e1] at this
    cases this
    exact ⟨.refl, r, hv⟩
theorem jok_tup {c : Ct} {F0 ι0 : List Addr} {H0 : Hp} {a : Addr} {ds : List D} (h : IsD (c.at F0) ι0 H0 (.ref a) (.tuple ds)) : JOk c F0 ι0 H0 (Itt c.K a) (itD ds) := fun F ι H M i g x r => by
  have h' := (h.grow (c := c) g).monoF (c := c.at F) x
  cases h' with
  | @tup _ xs _ hp t =>
    have hp' := sqT_of hp
    obtain ⟨t1, t2⟩ := isDs_atS (i := i) t
    refine ⟨fun e => ⟨xs, hp', t1 (Option.some.inj e)⟩, fun d e => ?_⟩
    obtain ⟨v, e1, hv⟩ := t2 d (Option.some.inj e)
    refine ⟨⟨xs, v, hp', e1⟩, fun y H' ⟨q1, q2⟩ => ?_⟩
    subst q1
    have := q2 xs hp'
    rw [e1] at this
    cases this
    exact ⟨.refl, r, hv⟩
theorem jok_str {c : Ct} {F0 ι0 : List Addr} {H0 : Hp} {z : Str} : JOk c F0 ι0 H0 (Its z) (itD (sgnD z)) := fun F ι H M i g x r => by
  have key : (sgnD z)[i]? = (z.cps[i]?).map fun c => PyData.str ⟨#[c]⟩ := by
    unfold sgnD
    rw [List.getElem?_map, Array.getElem?_toList]
  refine ⟨fun e => ?_, fun d e => ?_⟩
  · have e := Option.some.inj e
    rw [key] at e
    have e := Option.map_eq_none_iff.mp (Option.map_eq_none_iff.mp e)
    exact Array.getElem?_eq_none_iff.mp e
  · have e := Option.some.inj e
    rw [key] at e
    obtain ⟨d', e1, rfl⟩ := Option.map_eq_some_iff.mp e
    obtain ⟨ch, e2, rfl⟩ := Option.map_eq_some_iff.mp e1
    refine ⟨(Array.getElem?_eq_some_iff.mp e2).1, fun y H' ⟨q1, q2⟩ => ?_⟩
    subst q1
    obtain ⟨c', e3, rfl⟩ := q2
    rw [e2] at e3
    cases e3
    exact ⟨.refl, r, .dat (.str _)⟩
theorem jok_ptr {c : Ct} {F0 ι0 : List Addr} {H0 : Hp} {a : Addr} {n : Nat} (h : ι0[n]? = some a) : JOk c F0 ι0 H0 (Itl c.K a) (itP n) := fun F ι H M i g x r => by
  have h' := x.at h
  have key : ∀ o, itP n M i = some o → ∃ xs, H a = some (.lst xs) ∧ (o = none → xs.length ≤ i) ∧ ∀ d, o = some d → ∃ v, xs[i]? = some v ∧ IsS (c.at F) ι H v d := fun o e => by
    unfold itP at e
    split at e
    · rename_i ds hm
      cases r.at_ n a _ h' hm with
      | fl ow =>
        cases ow with
        | lst hp t => cases e; exact ⟨_, hp, isDs_atS t⟩
    · rename_i ss hm
      cases r.at_ n a _ h' hm with
      | ls hp t => cases e; exact ⟨_, hp, isSs_at t⟩
    · cases e
  refine ⟨fun e => ?_, fun d e => ?_⟩
  · obtain ⟨xs, hp, t1, _⟩ := key _ e
    exact ⟨xs, .of hp, t1 rfl⟩
  · obtain ⟨xs, hp, _, t2⟩ := key _ e
    obtain ⟨v, e2, hv⟩ := t2 d rfl
    refine ⟨⟨xs, v, .of hp, e2⟩, fun y H' ⟨q1, q2⟩ => ?_⟩
    subst q1
    have := q2 xs (.of hp)
    rw [e2] at this
    cases this
    exact ⟨.refl, r, hv⟩
theorem pdi_seq {e : Expr} {fe : DE} (he : PD X e fe) : PDI X tg e (iSeq fe) :=
  PI.weak (pi_seqA he) fun σ H R ⟨F, ι, Γ, M, it, M', w, e, k⟩ => by
    obtain ⟨⟨s, M1⟩, e1, e⟩ := Option.bind_eq_some_iff.mp e
    refine ⟨F, ι, Γ, M, s, M1, w, e1, fun v ι1 H1 x1 r1 i1 => ?_⟩
    simp only at e
    split at e
    · cases e
      cases i1 with
      | dat i1 =>
        obtain ⟨a, xs, rfl, hp, t⟩ := (Rdb.ofD i1).lst
        exact .inl ⟨a, rfl, .inl ⟨⟨xs, .of hp⟩, k _ ι1 H1 x1 r1 (jok_lst i1)⟩⟩
    · cases e
      cases i1 with
      | dat i1 =>
        obtain ⟨a, xs, rfl, hp, t, _⟩ := (Rdb.ofD i1).tup
        exact .inl ⟨a, rfl, .inr ⟨⟨xs, hp⟩, k _ ι1 H1 x1 r1 (jok_tup i1)⟩⟩
    · cases e
      cases i1 with
      | dat i1 =>
        cases i1
        exact .inr ⟨_, rfl, k _ ι1 H1 x1 r1 jok_str⟩
    · cases i1 with
      | ptr ha =>
      split at e
      · rename_i hm
        cases e
        cases r1.at_ _ _ _ ha hm with
        | fl ow =>
          cases ow with
          | lst hp t => exact .inl ⟨_, rfl, .inl ⟨⟨_, .of hp⟩, k _ ι1 H1 x1 r1 (jok_ptr ha)⟩⟩
      · rename_i hm
        cases e
        cases r1.at_ _ _ _ ha hm with
        | ls hp t => exact .inl ⟨_, rfl, .inl ⟨⟨_, .of hp⟩, k _ ι1 H1 x1 r1 (jok_ptr ha)⟩⟩
      · cases e
    · cases e
def itR (lo : Int) (n : Nat) : DIt := fun _ i => some (if i < n then some (.dat (.int (lo + i))) else none)
theorem jok_rng {c : Ct} {F0 ι0 : List Addr} {H0 : Hp} {lo : Int} {n : Nat} : JOk c F0 ι0 H0 (Itr lo n) (itR lo n) := fun F ι H M i g x r => by
  refine ⟨fun e => ?_, fun d e => ?_⟩
  · have e := Option.some.inj e
    split at e
    · cases e
    · rename_i h
      exact Nat.le_of_not_lt h
  · have e := Option.some.inj e
    split at e
    · rename_i h
      cases e
      refine ⟨h, fun y H' ⟨q1, q2⟩ => ?_⟩
      subst q1 q2
      exact ⟨.refl, r, .dat (.int _)⟩
    · cases e
def iRng (fr : DA) : DI := fun Γ M => (fr Γ M).bind fun p => match p.1 with
  | [.dat (.int j)] => if -1000000 ≤ j ∧ j ≤ 1000000 then some ((itR 0 j.toNat, j.toNat), p.2) else none
  | [.dat (.int i), .dat (.int j)] => if (-1000000 ≤ i ∧ i ≤ 1000000) ∧ -1000000 ≤ j ∧ j ≤ 1000000 then some ((itR i (j - i).toNat, (j - i).toNat), p.2) else none
  | _ => none
theorem pdi_rng1 {a : Expr} {fr : DA} {p pos : Pos} (hg : Gl X "range") (hm : X.mg "range" = none) (ha : PDA X [a] fr) (hs : starEach [a] X.env = [(false, eval a X.env)] := by rfl) (hl : ∀ Γ M ss M', fr Γ M = some (ss, M') → ss.length = 1 := by intro Γ M ss M' e; exact dlen e) : PDI X tg (.Call (.Name "range" p) [a] [] pos) (iRng fr) :=
  PI.weak (pi_range1 hg hm ha hs) fun σ H R ⟨F, ι, Γ, M, it, M', w, e, k⟩ => by
    obtain ⟨⟨ss, M1⟩, e1, e⟩ := Option.bind_eq_some_iff.mp e
    refine ⟨F, ι, Γ, M, ss, M1, w, e1, fun vs ι1 H1 x1 r1 i1 => ?_⟩
    have hl1 := hl _ _ _ _ e1
    simp only at e
    split at e
    · split at e
      · rename_i hb
        cases e
        cases i1 with
        | cons h t =>
          cases t
          cases h with
          | dat h =>
            cases h
            exact ⟨_, rfl, by omega, by omega, k _ ι1 H1 x1 r1 jok_rng⟩
      · cases e
    · cases hl1
    · cases e
theorem pdi_rng2 {a b : Expr} {fr : DA} {p pos : Pos} (hg : Gl X "range") (hm : X.mg "range" = none) (ha : PDA X [a, b] fr) (hs : starEach [a, b] X.env = [(false, eval a X.env), (false, eval b X.env)] := by rfl) (hs2 : starEach [b] X.env = [(false, eval b X.env)] := by rfl)
    (hl : ∀ Γ M ss M', fr Γ M = some (ss, M') → ss.length = 2 := by intro Γ M ss M' e; exact dlen e) : PDI X tg (.Call (.Name "range" p) [a, b] [] pos) (iRng fr) :=
  PI.weak (pi_range2 hg hm ha hs hs2) fun σ H R ⟨F, ι, Γ, M, it, M', w, e, k⟩ => by
    obtain ⟨⟨ss, M1⟩, e1, e⟩ := Option.bind_eq_some_iff.mp e
    refine ⟨F, ι, Γ, M, ss, M1, w, e1, fun vs ι1 H1 x1 r1 i1 => ?_⟩
    have hl1 := hl _ _ _ _ e1
    simp only at e
    split at e
    · cases hl1
    · split at e
      · rename_i hb
        cases e
        cases i1 with
        | cons h t =>
          cases t with
          | cons h' t =>
            cases t
            cases h with
            | dat h =>
              cases h
              cases h' with
              | dat h' =>
                cases h'
                exact ⟨_, _, rfl, ⟨by omega, by omega, by omega, by omega⟩, k _ ι1 H1 x1 r1 jok_rng⟩
      · cases e
    · cases e
theorem dlen_nil {Γ : Ga} {M M' : Sto} {ss : List SV} (e : dNil Γ M = some (ss, M')) : ss.length = 0 := by cases e; rfl
theorem dlen_cons {fa : DE} {fr : DA} {n : Nat} (h : ∀ Γ M ss M', fr Γ M = some (ss, M') → ss.length = n) {Γ : Ga} {M M' : Sto} {ss : List SV} (e : dCons fa fr Γ M = some (ss, M')) : ss.length = n + 1 := by
  obtain ⟨⟨s, M1⟩, e1, e⟩ := Option.bind_eq_some_iff.mp e
  obtain ⟨⟨r, M2⟩, e2, e⟩ := Option.bind_eq_some_iff.mp e
  cases e
  rw [List.length_cons, h _ _ _ _ e2]
theorem dlen1 {fa : DE} : ∀ Γ M ss M', dCons fa dNil Γ M = some (ss, M') → ss.length = 1 := fun _ _ _ _ e => dlen_cons (fun _ _ _ _ e => dlen_nil e) e
theorem dlen2 {fa fb : DE} : ∀ Γ M ss M', dCons fa (dCons fb dNil) Γ M = some (ss, M') → ss.length = 2 := fun _ _ _ _ e => dlen_cons dlen1 e
end

def forL (it : DIt) (tg : DG) (body : DS) : Nat → Nat → Ga → Sto → Option (Fl × Ga × Sto)
  | 0, _, _, _ => none
  | k + 1, i, Γ, M => match it M i with
    | none => none
    | some none => some (.nx, Γ, M)
    | some (some d) => (tg d M Γ).bind fun Γ1 => (body Γ1 M).bind fun r => match r.1 with
      | .nx => forL it tg body k (i + 1) r.2.1 r.2.2
      | .ct => forL it tg body k (i + 1) r.2.1 r.2.2
      | .bk => some (.nx, r.2.1, r.2.2)
      | .rt s => some (.rt s, r.2.1, r.2.2)
      | .ex s => some (.ex s, r.2.1, r.2.2)
def sFor (fi : DI) (tg : DG) (body : DS) : DS := fun Γ M => (fi Γ M).bind fun p => forL p.1.1 tg body (p.1.2 + 1) 0 Γ p.2
theorem pds_for {W : WX} {X : Cx} {tg iter : Expr} {body : List Stmt} {fi : DI} {ts : List Nat} {g : DG} {fb : DS} {pos : Pos} (hp : PassesOwn (model X.prog X.w) X.A X.env X.xe) (hc : X.calm = true) (hi : PDI X tg iter fi) (hg : PDG X tg ts g) (hb : PDSs X W body fb)
    (hs : ∀ x, foldedSetIterable iter X.env x = pure x := by intro _; rfl) : PDS X W (.For tg iter body [] pos) (sFor fi g fb) :=
  PS.weak (ps_for hp hc hi hg hb hs) fun E σ H ⟨F, ι, Γ, M, fl, Γ', M', w, e, k⟩ => by
    obtain ⟨⟨⟨it, n⟩, M1⟩, e1, e⟩ := Option.bind_eq_some_iff.mp e
    refine ⟨F, ι, Γ, M, (it, n), M1, w, e1, fun J ι1 H1 x1 r1 j1 => ?_⟩
    refine ⟨fun i m σ2 H2 => ∃ ι2 Γ2 M2, Ext ι1 H1 ι2 H2 ∧ Wd ((ctx X).at F) ι2 σ2 H2 Γ2 M2 ∧ forL it g fb m i Γ2 M2 = some (fl, Γ', M'), ⟨n + 1, ι1, Γ, M1, .refl, w.next x1 r1, e⟩, ?_⟩
    rintro i m σ2 H2 ⟨ι2, Γ2, M2, x2, w2, e2⟩
    cases m with
    | zero => cases e2
    | succ m =>
      obtain ⟨j2, j3⟩ := j1 F ι2 H2 M2 i (fun a h => .inl h) x2.toF w2.rep
      rw [forL] at e2
      split at e2
      · cases e2
      · rename_i hit
        cases e2
        exact .inl ⟨j2 hit, k ι2 σ2 H2 (x1.trans x2) w2⟩
      · rename_i d hit
        obtain ⟨g1, g2⟩ := j3 d hit
        obtain ⟨Γ3, e3, e2⟩ := Option.bind_eq_some_iff.mp e2
        obtain ⟨⟨f4, Γ4, M4⟩, e4, e2⟩ := Option.bind_eq_some_iff.mp e2
        refine .inr ⟨g1, fun σ5 H5 => ∃ ι5 Γ5 M5, Ext ι1 H1 ι5 H5 ∧ Wd ((ctx X).at F) ι5 σ5 H5 Γ5 M5 ∧ forL it g fb m (i + 1) Γ5 M5 = some (fl, Γ', M'), fun σ5 H5 ⟨ι5, Γ5, M5, a, b, c⟩ => ⟨m, Nat.lt_succ_self m, ι5, Γ5, M5, a, b, c⟩, fun x H3 y => ?_⟩
        obtain ⟨x3, r3, hd⟩ := g2 x H3 y
        refine ⟨F, ι2, Γ2, M2, d, Γ3, w2.next x3 r3, hd, e3, fun σ3 _ w3 => ?_⟩
        refine ⟨F, ι2, Γ3, M2, f4, Γ4, M4, w3, e4, fun ι4 σ4 H4 x4 w4 => ?_⟩
        have xx := x2.trans (x3.trans x4)
        cases f4 with
        | nx => exact ⟨ι4, Γ4, M4, xx, w4, e2⟩
        | ct => exact ⟨ι4, Γ4, M4, xx, w4, e2⟩
        | bk => cases e2; exact k ι4 σ4 H4 (x1.trans xx) w4
        | rt s => cases e2; exact k ι4 σ4 H4 (x1.trans xx) w4
        | ex s => cases e2; exact k ι4 σ4 H4 (x1.trans xx) w4

def wipeG (Γ : Ga) : List Nat → Ga
  | [] => Γ
  | v :: vs => (wipeG Γ vs).set v none
theorem wipeG_length (Γ : Ga) : ∀ vs : List Nat, (wipeG Γ vs).length = Γ.length
  | [] => rfl
  | v :: vs => by unfold wipeG; rw [List.length_set, wipeG_length Γ vs]
theorem wipeG_some {Γ : Ga} {i : Nat} {x : SV} : ∀ {vs : List Nat}, (wipeG Γ vs)[i]? = some (some x) → Γ[i]? = some (some x) ∧ i ∉ vs
  | [], h => ⟨h, by simp⟩
  | v :: vs, h => by
    unfold wipeG at h
    by_cases hi : v = i
    · subst hi
      by_cases hv : v < (wipeG Γ vs).length
      · rw [List.getElem?_set_self hv] at h; cases h
      · rw [List.getElem?_eq_none (by simpa using hv)] at h; cases h
    · rw [List.getElem?_set_ne hi] at h
      obtain ⟨h1, h2⟩ := wipeG_some h
      exact ⟨h1, by simp only [List.mem_cons, not_or]; exact ⟨fun e => hi e.symm, h2⟩⟩
theorem Wd.wipe {c : Ct} {ι : List Addr} {σ : L2.St} {H : Hp} {Γ : Ga} {M : Sto} (w : Wd c ι σ H Γ M) (vs : List Nat) : Wd c ι (L2.wipe σ vs) H (wipeG Γ vs) M :=
  ⟨w.rep, by rw [wipe_length, wipeG_length]; exact w.len, fun i s h => by
    obtain ⟨h1, h2⟩ := wipeG_some h
    obtain ⟨v, h3, h4⟩ := w.at_ i s h1
    exact ⟨v, by rw [wipe_at, if_neg h2]; exact h3, h4⟩⟩
def tYes_ : DT := fun _ M => some (true, M)
abbrev PDTs (X : Cx) (ifs : List Expr) (f : DT) : Prop := PTs X ifs (rdT (ctx X) f)
theorem PTs.weak {X : Cx} {e : List Expr} {t t' : TT} (h : PTs X e t) (w : ∀ σ H Q, t' σ H Q → t σ H Q) : PTs X e t' := ⟨fun pins s σ H Q I q => h.run pins s σ H Q I (w σ H Q q)⟩
theorem pdts_nil {X : Cx} : PDTs X [] tYes_ := PTs.weak pts_nil fun σ H Q ⟨F, ι, Γ, M, b, M', w, e, k⟩ => by
  cases e
  exact k ι H .refl w.rep
theorem pdts_one {X : Cx} {e : Expr} {f : DT} (h : PDT X e f) : PDTs X [e] f := pts_one h
theorem rep_ptr {c : Ct} {ι : List Addr} {H : Hp} {M : Sto} (r : Rep c ι H M) {n : Nat} {d : Cell} (h : M[n]? = some d) : ∃ a, ι[n]? = some a := by
  have hl : n < ι.length := by rw [r.len]; exact (List.getElem?_eq_some_iff.mp h).1
  exact ⟨ι[n], List.getElem?_eq_getElem hl⟩

abbrev DSt := SV → Sto → List SV → Option (List SV × Sto)
def itL (it : DIt) (step : DSt) : Nat → Nat → Sto → List SV → Option (List SV × Sto)
  | 0, _, _, _ => none
  | k + 1, i, M, acc => match it M i with
    | none => none
    | some none => some (acc, M)
    | some (some d) => (step d M acc).bind fun r => itL it step k (i + 1) r.2 r.1
def elS (te : DE) (Γ : Ga) (M : Sto) (acc : List SV) : Option (List SV × Sto) := (te Γ M).bind fun p => if acc.length < LIM then some (acc ++ [p.1], p.2) else none
def cStep (tg : DG) (tt : DT) (own : List Nat) (te : DE) (Γ : Ga) : DSt := fun d M acc => (tg d M (wipeG Γ own)).bind fun Γ1 => (tt Γ1 M).bind fun b => if b.1 = true then elS te Γ1 b.2 acc else some (acc, b.2)
def cStep2 (tg : DG) (tt : DT) (own : List Nat) (fi1 : DI) (tg1 : DG) (tt1 : DT) (own1 : List Nat) (te : DE) (Γ : Ga) : DSt := fun d M acc => (tg d M (wipeG Γ own)).bind fun Γ1 => (tt Γ1 M).bind fun b =>
  if b.1 = true then (fi1 Γ1 b.2).bind fun p => itL p.1.1 (cStep tg1 tt1 own1 te Γ1) (p.1.2 + 1) 0 p.2 acc else some (acc, b.2)
def finL (m : Bool) (r : List SV × Sto) : Option (SV × Sto) := if m = true then some (.ptr r.2.length, r.2 ++ [lstCell r.1]) else (dats r.1).map fun ds => (.dat (.list ds), r.2)
def dComp (fi : DI) (step : Ga → DSt) (m : Bool := false) : DE := fun Γ M => (fi Γ M).bind fun p => (itL p.1.1 (step Γ) (p.1.2 + 1) 0 p.2 []).bind (finL m)
/-- the state within a comprehension -/
def CInv (c : Ct) (F : List Addr) (ι1 : List Addr) (H1 : Hp) (Dp : Addr) (H : Hp) (M : Sto) (acc : List SV) : Prop :=
  ∃ ι xs, Ext ι1 H1 ι H ∧ Rep (c.at (Dp :: F)) ι H M ∧ H Dp = some (.lst xs) ∧ IsSs (c.at (Dp :: F)) ι H xs acc
theorem dats_map {ss : List SV} {ds : List D} (e : dats ss = some ds) : ss = ds.map .dat := by
  induction ss generalizing ds with
  | nil => cases e; rfl
  | cons s ss ih =>
    cases s with
    | dat d =>
      obtain ⟨ds', e', rfl⟩ := Option.map_eq_some_iff.mp e
      rw [ih e']; rfl
    | ptr n => cases e
theorem IsSs.ds {c : Ct} {ι : List Addr} {H : Hp} {xs : List V} {ds : List D} (h : IsSs c ι H xs (ds.map .dat)) : IsDs c ι H xs ds := by
  induction ds generalizing xs with
  | nil => cases h; exact .nil
  | cons d ds ih =>
    cases h with
    | cons h t => cases h with | dat h => exact .cons h (ih t)
theorem Ext.trans' {ι1 ι : List Addr} {H1 H : Hp} {Dp : Addr} (x : Ext ι1 H1 ι H) (_hn : Dp ∉ ι) (hD : H1 Dp = none) : Ext ι1 H1 (ι ++ [Dp]) H := by
  obtain ⟨l, rfl, hl⟩ := x.pre
  refine ⟨⟨l ++ [Dp], by simp, fun a h => ?_⟩, x.keep, x.dom⟩
  rcases List.mem_append.mp h with h | h
  · exact hl a h
  · rw [List.mem_singleton.mp h]; exact hD
theorem comp_end {c : Ct} {F ι1 : List Addr} {H1 H : Hp} {Dp : Addr} {M : Sto} {acc : List SV} {m : Bool} {s : SV} {M' : Sto} {Q : VK} (hF : Dp ∉ F) (hD : H1 Dp = none) (q : CInv c F ι1 H1 Dp H M acc) (e : finL m (acc, M) = some (s, M')) (k : Aft (c.at F) ι1 H1 M' s Q) : Q (.ref Dp) H := by
  obtain ⟨ι, xs, x, r, hp, t⟩ := q
  have hn : Dp ∉ ι := (r.fr Dp List.mem_cons_self).1
  unfold finL at e
  cases m with
  | true =>
    rw [if_pos rfl] at e
    cases e
    have own : Own (c.at (Dp :: F)) ι H Dp (lstCell acc) := lstCell_own .refl t hp
    refine k (.ref Dp) (ι ++ [Dp]) H (x.trans' hn hD) (r.showP hF own) (.ptr (ptr_last r.len))
  | false =>
    rw [if_neg Bool.false_ne_true] at e
    obtain ⟨ds, e1, e⟩ := Option.map_eq_some_iff.mp e
    cases e
    rw [dats_map (show dats acc = some ds from e1)] at t
    refine k (.ref Dp) ι H x r.showD (.dat (.lst hp ⟨hF, hn⟩ (t.ds.sub (c := c) fun a h => h.imp (List.mem_cons_of_mem _) id)))

theorem Wd.hide {c : Ct} {F ι1 ι : List Addr} {σ : L2.St} {H1 H : Hp} {Γ : Ga} {M1 M : Sto} {Dp : Addr} (w : Wd (c.at F) ι1 σ H1 Γ M1) (hD : H1 Dp = none) (x : Ext ι1 H1 ι H) (r : Rep (c.at (Dp :: F)) ι H M) : Wd (c.at (Dp :: F)) ι σ H Γ M :=
  ⟨r, w.len, fun i s h => let ⟨v, h1, h2⟩ := w.at_ i s h; ⟨v, h1, (h2.grow (c := c) fun a q => by
    rcases List.mem_cons.mp q with q | q
    · rw [q]; exact .inr hD
    · exact .inl q).mono x⟩⟩
/-- one turn of a comprehension -/
theorem comp_turn {c : Ct} {F ι1 ι : List Addr} {σ : L2.St} {H1 H : Hp} {Γ : Ga} {M M' : Sto} {Dp : Addr} {g : DG} {tt : DT} {te : DE} {own ts : List Nat} {d : SV} {xs : List V} {acc acc' : List SV} {v : V} {Nx : Hp → Prop} (ho : ∀ k ∈ ts, k ∈ own) (hD : H1 Dp = none)
    (w : Wd (c.at (Dp :: F)) ι σ H Γ M) (x : Ext ι1 H1 ι H) (hp : H Dp = some (.lst xs)) (t : IsSs (c.at (Dp :: F)) ι H xs acc) (hd : IsS (c.at (Dp :: F)) ι H v d) (e : cStep g tt own te Γ d M acc = some (acc', M'))
    (k : ∀ ι' H' xs', Ext ι1 H1 ι' H' → Rep (c.at (Dp :: F)) ι' H' M' → H' Dp = some (.lst xs') → IsSs (c.at (Dp :: F)) ι' H' xs' acc' → ExtF (Dp :: F) ι H ι' H' → (∀ a, H' a = none → H a = none) → Nx H') :
    rdG c ts g v (L2.wipe σ own) H fun σ2 H2 => L2.wipe σ2 own = L2.wipe σ own ∧ rdT c tt σ2 H2 fun b H3 => if b = true then rdE c te σ2 H3 fun y H4 => ∃ acc, H4 Dp = some (.lst acc) ∧ acc.length < sizeLine ∧ Nx (upd H4 Dp (.lst (acc ++ [y]))) else Nx H3 := by
  obtain ⟨Γ1, e1, e⟩ := Option.bind_eq_some_iff.mp e
  obtain ⟨⟨b, M4⟩, e2, e⟩ := Option.bind_eq_some_iff.mp e
  refine ⟨Dp :: F, ι, wipeG Γ own, M, d, Γ1, w.wipe own, hd, e1, fun σ3 a3 w3 => ⟨AtMost.wipe (a3.mono ho) |>.trans ?_, ?_⟩⟩
  · apply List.ext_getElem?
    intro k
    rw [wipe_at, wipe_at]
    by_cases hk : k ∈ own
    · rw [if_pos hk, if_pos hk]
      cases σ[k]? <;> rfl
    · rw [if_neg hk]
  · refine ⟨Dp :: F, ι, Γ1, M, b, M4, w3, e2, fun ι4 H4 x4 r4 => ?_⟩
    have hn : Dp ∉ ι := (w.rep.fr Dp List.mem_cons_self).1
    have hp4 := x4.keep Dp _ hn hp
    cases b with
    | false =>
      rw [if_neg Bool.false_ne_true] at e
      cases e
      exact iteF (k ι4 H4 xs (x.trans x4) r4 hp4 (t.mono x4) x4.toF x4.dom)
    | true =>
      rw [if_pos rfl] at e
      obtain ⟨⟨s5, M5⟩, e5, e⟩ := Option.bind_eq_some_iff.mp e
      refine iteT ⟨Dp :: F, ι4, Γ1, M4, s5, M5, w3.next x4 r4, e5, fun v5 ι5 H5 x5 r5 i5 => ?_⟩
      simp only at e
      split at e
      case isFalse => cases e
      rename_i hl
      cases e
      have hn4 : Dp ∉ ι4 := (r4.fr Dp List.mem_cons_self).1
      refine ⟨xs, x5.keep Dp _ hn4 hp4, by rw [t.length]; exact lim_lt (Nat.le_of_lt hl), ?_⟩
      have hm : Dp ∈ (c.at (Dp :: F)).F := List.mem_cons_self
      have xx := x4.trans x5
      have x1 := x.trans xx
      have dm : ∀ a, upd H5 Dp (.lst (xs ++ [v5])) a = none → H5 a = none := fun a h => by
        by_cases e : a = Dp
        · rw [e, upd_same] at h; cases h
        · rwa [upd_ne e] at h
      refine k ι5 _ (xs ++ [v5]) ⟨x1.pre, fun a o n h => ?_, fun a h => x1.dom a (dm a h)⟩ (r5.writeF hm) upd_same ((((t.mono x4).mono x5).updF hm).append (.cons (i5.updF hm) .nil)) ⟨xx.pre, fun a o nf n h => ?_⟩ fun a h => xx.dom a (dm a h)
      · rw [upd_ne (ne_of_none h hD)]
        exact x1.keep a o n h
      · rw [upd_ne fun z => nf (by rw [z]; exact List.mem_cons_self)]
        exact xx.keep a o n h
theorem rd_comp {c : Ct} {fi : DI} {ts own : List Nat} {g : DG} {tt : DT} {te : DE} {σ : L2.St} {H : Hp} {Q : VK} {m : Bool} (ho : ∀ k ∈ ts, k ∈ own) (q : rdE c (dComp fi (cStep g tt own te) m) σ H Q) : tLc (rdI c fi) (rdG c ts g) (rdT c tt) (rdE c te) own σ H Q := by
  obtain ⟨F, ι, Γ, M, s, M', w, e, k⟩ := q
  obtain ⟨⟨⟨it, n⟩, M1⟩, e1, e⟩ := Option.bind_eq_some_iff.mp e
  obtain ⟨⟨acc', Mr⟩, er, e⟩ := Option.bind_eq_some_iff.mp e
  refine ⟨F, ι, Γ, M, (it, n), M1, w, e1, fun J ι1 H1 x1 r1 j1 => ?_⟩
  intro Dp hD
  have w1 := w.next x1 r1
  have hF : Dp ∉ F := fun h => by
    obtain ⟨_, o, z⟩ := r1.fr Dp h
    rw [hD] at z; cases z
  refine ⟨fun i m H2 => ∃ M2 acc, CInv c F ι1 H1 Dp H2 M2 acc ∧ itL it (cStep g tt own te Γ) m i M2 acc = some (acc', Mr), ⟨n + 1, M1, [], ⟨ι1, [], .new hD, r1.hide hD, upd_same, .nil⟩, er⟩, ?_⟩
  rintro i m H2 ⟨M2, acc, ci, e2⟩
  obtain ⟨ι2, xs, x2, r2, hp, t⟩ := id ci
  cases m with
  | zero => cases e2
  | succ m =>
    obtain ⟨j2, j3⟩ := j1 (Dp :: F) ι2 H2 M2 i (fun a h => by
      rcases List.mem_cons.mp h with h | h
      · rw [h]; exact .inr hD
      · exact .inl h) x2.toF r2
    rw [itL] at e2
    split at e2
    · cases e2
    · rename_i hit
      cases e2
      exact .inl ⟨j2 hit, comp_end hF hD ci e fun v ι3 H3 x3 r3 i3 => k v ι3 H3 (x1.trans x3) r3 i3⟩
    · rename_i d hit
      obtain ⟨g1, g2⟩ := j3 d hit
      obtain ⟨⟨acc5, M5⟩, e3, e2⟩ := Option.bind_eq_some_iff.mp e2
      refine .inr ⟨g1, fun H5 => ∃ M5 acc5, CInv c F ι1 H1 Dp H5 M5 acc5 ∧ itL it (cStep g tt own te Γ) m (i + 1) M5 acc5 = some (acc', Mr), fun H5 ⟨M5, acc5, a, b⟩ => ⟨m, Nat.lt_succ_self m, M5, acc5, a, b⟩, fun x H3 y => ?_⟩
      obtain ⟨x3, r3, hd⟩ := g2 x H3 y
      have hn : Dp ∉ ι2 := (r2.fr Dp List.mem_cons_self).1
      exact comp_turn ho hD (w1.hide hD (x2.trans x3) r3) (x2.trans x3) (x3.keep Dp _ hn hp) (t.mono x3) hd e3 fun ι' H' xs' q1 q2 q3 q4 _ _ => ⟨M5, acc5, ⟨ι', xs', q1, q2, q3, q4⟩, e2⟩
theorem rd_comp2 {c : Ct} {fi fi1 : DI} {ts own ts1 own1 : List Nat} {g g1 : DG} {tt tt1 : DT} {te : DE} {σ : L2.St} {H : Hp} {Q : VK} {m : Bool} (ho : ∀ k ∈ ts, k ∈ own) (ho1 : ∀ k ∈ ts1, k ∈ own1) (q : rdE c (dComp fi (cStep2 g tt own fi1 g1 tt1 own1 te) m) σ H Q) :
    tLc2 (rdI c fi) (rdG c ts g) (rdT c tt) (rdI c fi1) (rdG c ts1 g1) (rdT c tt1) (rdE c te) own own1 σ H Q := by
  obtain ⟨F, ι, Γ, M, s, M', w, e, k⟩ := q
  obtain ⟨⟨⟨it, n⟩, M1⟩, e1, e⟩ := Option.bind_eq_some_iff.mp e
  obtain ⟨⟨acc', Mr⟩, er, e⟩ := Option.bind_eq_some_iff.mp e
  refine ⟨F, ι, Γ, M, (it, n), M1, w, e1, fun J ι1 H1 x1 r1 j1 => ?_⟩
  intro Dp hD
  have w1 := w.next x1 r1
  have hF : Dp ∉ F := fun h => by
    obtain ⟨_, o, z⟩ := r1.fr Dp h
    rw [hD] at z; cases z
  refine ⟨fun i m H2 => ∃ M2 acc, CInv c F ι1 H1 Dp H2 M2 acc ∧ itL it (cStep2 g tt own fi1 g1 tt1 own1 te Γ) m i M2 acc = some (acc', Mr), ⟨n + 1, M1, [], ⟨ι1, [], .new hD, r1.hide hD, upd_same, .nil⟩, er⟩, ?_⟩
  rintro i m H2 ⟨M2, acc, ci, e2⟩
  obtain ⟨ι2, xs, x2, r2, hp, t⟩ := id ci
  cases m with
  | zero => cases e2
  | succ m =>
    obtain ⟨j2, j3⟩ := j1 (Dp :: F) ι2 H2 M2 i (fun a h => by
      rcases List.mem_cons.mp h with h | h
      · rw [h]; exact .inr hD
      · exact .inl h) x2.toF r2
    rw [itL] at e2
    split at e2
    · cases e2
    · rename_i hit
      cases e2
      exact .inl ⟨j2 hit, comp_end hF hD ci e fun v ι3 H3 x3 r3 i3 => k v ι3 H3 (x1.trans x3) r3 i3⟩
    · rename_i d hit
      obtain ⟨gg1, g2⟩ := j3 d hit
      obtain ⟨⟨acc5, M5⟩, e3, e2⟩ := Option.bind_eq_some_iff.mp e2
      refine .inr ⟨gg1, fun H5 => ∃ M5 acc5, CInv c F ι1 H1 Dp H5 M5 acc5 ∧ itL it (cStep2 g tt own fi1 g1 tt1 own1 te Γ) m (i + 1) M5 acc5 = some (acc', Mr), fun H5 ⟨M5, acc5, a, b⟩ => ⟨m, Nat.lt_succ_self m, M5, acc5, a, b⟩, fun x H3 y => ?_⟩
      obtain ⟨x3, r3, hd⟩ := g2 x H3 y
      have hn : Dp ∉ ι2 := (r2.fr Dp List.mem_cons_self).1
      have hp3 := x3.keep Dp _ hn hp
      have w3 := w1.hide hD (x2.trans x3) r3
      obtain ⟨Γ3, e4, e3⟩ := Option.bind_eq_some_iff.mp e3
      obtain ⟨⟨b, M4⟩, e5, e3⟩ := Option.bind_eq_some_iff.mp e3
      refine ⟨Dp :: F, ι2, wipeG Γ own, M2, d, Γ3, w3.wipe own, hd, e4, fun σ4 a4 w4 => ⟨AtMost.wipe (a4.mono ho) |>.trans ?_, ?_⟩⟩
      · apply List.ext_getElem?
        intro k
        rw [wipe_at, wipe_at]
        by_cases hk : k ∈ own
        · rw [if_pos hk, if_pos hk]
          cases σ[k]? <;> rfl
        · rw [if_neg hk]
      · refine ⟨Dp :: F, ι2, Γ3, M2, b, M4, w4, e5, fun ι4 H4 x4 r4 => ?_⟩
        have hp4 := x4.keep Dp _ hn hp3
        cases b with
        | false =>
          rw [if_neg Bool.false_ne_true] at e3
          cases e3
          exact iteF ⟨_, _, ⟨ι4, xs, (x2.trans x3).trans x4, r4, hp4, (t.mono x3).mono x4⟩, e2⟩
        | true =>
          rw [if_pos rfl] at e3
          obtain ⟨⟨⟨it1, n1⟩, M6⟩, e6, e3⟩ := Option.bind_eq_some_iff.mp e3
          refine iteT ⟨Dp :: F, ι4, Γ3, M4, (it1, n1), M6, w4.next x4 r4, e6, fun J1 ι6 H6 x6 r6 j6 => ?_⟩
          have hn4 : Dp ∉ ι4 := (r4.fr Dp List.mem_cons_self).1
          have w6 := (w4.next x4 r4).next x6 r6
          refine ⟨fun j k H7 => ∃ ι7 M7 acc7 xs7, Ext ι1 H1 ι7 H7 ∧ Rep (c.at (Dp :: F)) ι7 H7 M7 ∧ H7 Dp = some (.lst xs7) ∧ IsSs (c.at (Dp :: F)) ι7 H7 xs7 acc7 ∧ ExtF (Dp :: F) ι6 H6 ι7 H7 ∧ (∀ a, H7 a = none → H6 a = none) ∧ itL it1 (cStep g1 tt1 own1 te Γ3) k j M7 acc7 = some (acc5, M5),
            ⟨n1 + 1, ι6, M6, acc, xs, ((x2.trans x3).trans x4).trans x6, r6, x6.keep Dp _ hn4 hp4, ((t.mono x3).mono x4).mono x6, Ext.refl.toF, fun _ h => h, e3⟩, ?_⟩
          rintro j kk H7 ⟨ι7, M7, acc7, xs7, x7, r7, hp7, t7, xf, xd, e7⟩
          cases kk with
          | zero => cases e7
          | succ kk =>
            obtain ⟨j8, j9⟩ := j6 (Dp :: F) ι7 H7 M7 j (fun a h => .inl h) xf r7
            rw [itL] at e7
            split at e7
            · cases e7
            · rename_i hit1
              cases e7
              exact .inl ⟨j8 hit1, M5, acc5, ⟨ι7, xs7, x7, r7, hp7, t7⟩, e2⟩
            · rename_i d1 hit1
              obtain ⟨gg3, g4⟩ := j9 d1 hit1
              obtain ⟨⟨acc8, M8⟩, e8, e7⟩ := Option.bind_eq_some_iff.mp e7
              refine .inr ⟨gg3, fun H9 => ∃ ι7 M7 acc7 xs7, Ext ι1 H1 ι7 H9 ∧ Rep (c.at (Dp :: F)) ι7 H9 M7 ∧ H9 Dp = some (.lst xs7) ∧ IsSs (c.at (Dp :: F)) ι7 H9 xs7 acc7 ∧ ExtF (Dp :: F) ι6 H6 ι7 H9 ∧ (∀ a, H9 a = none → H6 a = none) ∧ itL it1 (cStep g1 tt1 own1 te Γ3) kk (j + 1) M7 acc7 = some (acc5, M5),
                fun H9 ⟨a1, a2, a3, a4, a5⟩ => ⟨kk, Nat.lt_succ_self kk, a1, a2, a3, a4, a5⟩, fun x9 H9 y9 => ?_⟩
              obtain ⟨x9', r9, hd9⟩ := g4 x9 H9 y9
              have hn7 : Dp ∉ ι7 := (r7.fr Dp List.mem_cons_self).1
              have w9 : Wd (c.at (Dp :: F)) ι7 σ4 H9 Γ3 M7 := ⟨r9, w6.len, fun i s h => let ⟨v, h1, h2⟩ := w6.at_ i s h; ⟨v, h1, (h2.monoF (c := c.at (Dp :: F)) xf).mono x9'⟩⟩
              exact comp_turn ho1 hD w9 (x7.trans x9') (x9'.keep Dp _ hn7 hp7) (t7.mono x9') hd9 e8 fun ι' H' xs' q1 q2 q3 q4 q5 q6 => ⟨ι', M8, acc8, xs', q1, q2, q3, q4, (xf.trans x9' xd).transF q5 fun a h => xd a (x9'.dom a h), fun a h => xd a (x9'.dom a (q6 a h)), e7⟩
section
variable {W : WX} {X : Cx} {elt tg iter tg1 iter1 : Expr} {ifs ifs1 : List Expr} {scope : Scope} {own : List (Str × Nat)} {pos : Pos} {fi fi1 : DI} {ts ts1 own1 : List Nat} {g g1 : DG} {tt tt1 : DT} {te : DE} {m : Bool}
theorem pd_comp (hc : X.calm = true) (hN : X.N.Nodup) (hi : PDI X tg iter fi) (ok : BlkOk X.N X.env.scope scope own)
    (hg : ∀ (s : Shared) (H : Hp) (C : Addr) (cl : List (Str × Addr)) (fp : List Addr), PDG (X.blk s H scope (compEnvC scope cl C X.env) fp) tg ts g) (ht : ∀ (s : Shared) (H : Hp) (C : Addr) (cl : List (Str × Addr)) (fp : List Addr), PDTs (X.blk s H scope (compEnvC scope cl C X.env) fp) ifs tt)
    (he : ∀ (s : Shared) (H : Hp) (C : Addr) (cl : List (Str × Addr)) (fp : List Addr), PD (X.blk s H scope (compEnvC scope cl C X.env) fp) elt te) (ho : ∀ k ∈ ts, k ∈ own.map (·.2) := by decide) (hs : ∀ x, foldedSetIterable iter X.env x = pure x := by intro _; rfl) :
    PD X (.ListComp elt [⟨tg, iter, ifs, 0⟩] scope pos) (dComp fi (cStep g tt (own.map (·.2)) te) m) :=
  PE.weak (pe_lc hc hN hi ok hg ht he hs) fun σ H Q q => rd_comp (c := ctx X) ho q
theorem pds_setComp {i : Nat} {y : Str} {py spos : Pos} (hc : X.calm = true) (hN : X.N.Nodup) (hy : X.N[i]? = some y) (hyl : X.env.scope.names.lookup y = some .local)
    (hsw : swapsWith (.ListComp elt [⟨tg, iter, ifs, 0⟩] scope pos) (some (.Name y py)) spos.line X.env = pure true) (hi : PDI X tg iter fi) (ok : BlkOk X.N X.env.scope scope own)
    (hg : ∀ (s : Shared) (H : Hp) (C : Addr) (cl : List (Str × Addr)) (fp : List Addr), PDG (X.blk s H scope (compEnvC scope cl C X.env) fp) tg ts g) (ht : ∀ (s : Shared) (H : Hp) (C : Addr) (cl : List (Str × Addr)) (fp : List Addr), PDTs (X.blk s H scope (compEnvC scope cl C X.env) fp) ifs tt)
    (he : ∀ (s : Shared) (H : Hp) (C : Addr) (cl : List (Str × Addr)) (fp : List Addr), PD (X.blk s H scope (compEnvC scope cl C X.env) fp) elt te) (ho : ∀ k ∈ ts, k ∈ own.map (·.2) := by decide) (hs : ∀ x, foldedSetIterable iter X.env x = pure x := by intro _; rfl) :
    PDS X W (.Assign [.Name y py] (.ListComp elt [⟨tg, iter, ifs, 0⟩] scope pos) spos) (sAsg i (dComp fi (cStep g tt (own.map (·.2)) te) m)) :=
  ps_asgD (ps_setLc hc hN hy hyl hsw hi ok hg ht he hs) fun σ H Q q => rd_comp (c := ctx X) ho q
theorem pd_comp2 (hc : X.calm = true) (hN : X.N.Nodup) (hi : PDI X tg iter fi) (ok : BlkOk X.N X.env.scope scope own) (hv : ∀ i ∈ own1, i ∈ own.map (·.2))
    (hg : ∀ (s : Shared) (H : Hp) (C : Addr) (cl : List (Str × Addr)) (fp : List Addr), PDG (X.blk s H scope (compEnvC scope cl C X.env) fp) tg ts g) (ht : ∀ (s : Shared) (H : Hp) (C : Addr) (cl : List (Str × Addr)) (fp : List Addr), PDTs (X.blk s H scope (compEnvC scope cl C X.env) fp) ifs tt)
    (hi1 : ∀ (s : Shared) (H : Hp) (C : Addr) (cl : List (Str × Addr)) (fp : List Addr), PDI (X.blk s H scope (compEnvC scope cl C X.env) fp) tg1 iter1 fi1)
    (hg1 : ∀ (s : Shared) (H : Hp) (C : Addr) (cl : List (Str × Addr)) (fp : List Addr), PDG (X.blk s H scope (compEnvC scope cl C X.env) fp) tg1 ts1 g1) (ht1 : ∀ (s : Shared) (H : Hp) (C : Addr) (cl : List (Str × Addr)) (fp : List Addr), PDTs (X.blk s H scope (compEnvC scope cl C X.env) fp) ifs1 tt1)
    (he : ∀ (s : Shared) (H : Hp) (C : Addr) (cl : List (Str × Addr)) (fp : List Addr), PD (X.blk s H scope (compEnvC scope cl C X.env) fp) elt te) (ho : ∀ k ∈ ts, k ∈ own.map (·.2) := by decide) (ho1 : ∀ k ∈ ts1, k ∈ own1 := by decide) (hs : ∀ x, foldedSetIterable iter X.env x = pure x := by intro _; rfl) (hs1 : ∀ env x, foldedSetIterable iter1 env x = pure x := by intro _ _; rfl) :
    PD X (.ListComp elt [⟨tg, iter, ifs, 0⟩, ⟨tg1, iter1, ifs1, 0⟩] scope pos) (dComp fi (cStep2 g tt (own.map (·.2)) fi1 g1 tt1 own1 te) m) :=
  PE.weak (pe_lc2 hc hN hi ok hv hg ht hi1 hg1 ht1 he hs hs1) fun σ H Q q => rd_comp2 (c := ctx X) ho ho1 q
theorem pds_setComp2 {i : Nat} {y : Str} {py spos : Pos} (hc : X.calm = true) (hN : X.N.Nodup) (hy : X.N[i]? = some y) (hyl : X.env.scope.names.lookup y = some .local)
    (hsw : swapsWith (.ListComp elt [⟨tg, iter, ifs, 0⟩, ⟨tg1, iter1, ifs1, 0⟩] scope pos) (some (.Name y py)) spos.line X.env = pure true) (hi : PDI X tg iter fi) (ok : BlkOk X.N X.env.scope scope own) (hv : ∀ i ∈ own1, i ∈ own.map (·.2))
    (hg : ∀ (s : Shared) (H : Hp) (C : Addr) (cl : List (Str × Addr)) (fp : List Addr), PDG (X.blk s H scope (compEnvC scope cl C X.env) fp) tg ts g) (ht : ∀ (s : Shared) (H : Hp) (C : Addr) (cl : List (Str × Addr)) (fp : List Addr), PDTs (X.blk s H scope (compEnvC scope cl C X.env) fp) ifs tt)
    (hi1 : ∀ (s : Shared) (H : Hp) (C : Addr) (cl : List (Str × Addr)) (fp : List Addr), PDI (X.blk s H scope (compEnvC scope cl C X.env) fp) tg1 iter1 fi1)
    (hg1 : ∀ (s : Shared) (H : Hp) (C : Addr) (cl : List (Str × Addr)) (fp : List Addr), PDG (X.blk s H scope (compEnvC scope cl C X.env) fp) tg1 ts1 g1) (ht1 : ∀ (s : Shared) (H : Hp) (C : Addr) (cl : List (Str × Addr)) (fp : List Addr), PDTs (X.blk s H scope (compEnvC scope cl C X.env) fp) ifs1 tt1)
    (he : ∀ (s : Shared) (H : Hp) (C : Addr) (cl : List (Str × Addr)) (fp : List Addr), PD (X.blk s H scope (compEnvC scope cl C X.env) fp) elt te) (ho : ∀ k ∈ ts, k ∈ own.map (·.2) := by decide) (ho1 : ∀ k ∈ ts1, k ∈ own1 := by decide) (hs : ∀ x, foldedSetIterable iter X.env x = pure x := by intro _; rfl) (hs1 : ∀ env x, foldedSetIterable iter1 env x = pure x := by intro _ _; rfl) :
    PDS X W (.Assign [.Name y py] (.ListComp elt [⟨tg, iter, ifs, 0⟩, ⟨tg1, iter1, ifs1, 0⟩] scope pos) spos) (sAsg i (dComp fi (cStep2 g tt (own.map (·.2)) fi1 g1 tt1 own1 te) m)) :=
  ps_asgD (ps_setLc2 hc hN hy hyl hsw hi ok hv hg ht hi1 hg1 ht1 he hs hs1) fun σ H Q q => rd_comp2 (c := ctx X) ho ho1 q
end
end EL
namespace EL
open PySem PySem.Spec PyProof.Rows L2

inductive Ret where
  | ok (s : SV)
  | er (e : Er)
abbrev FnT := List SV → Sto → Option (Ret × Sto)
/-- the first k objects, if they hold data alone -/
def cutM : Nat → Sto → Option Sto
  | 0, _ => some []
  | k + 1, .fl d :: r => (cutM k r).map (.fl d :: ·)
  | _, _ => none
def cutR (k : Nat) (s : SV) (M : Sto) : Option (Ret × Sto) := match s with
  | .dat d => (cutM k M).map fun M' => (.ok (.dat d), M')
  | .ptr n => if k ≤ n then (flD M[n]?).bind fun d => (cutM k M).map fun M' => (.ok (.dat d), M') else none
/-- w: nothing is cut off; x: exceptions leave -/
def fnOut (x w : Bool) (k : Nat) (r : Fl × Ga × Sto) : Option (Ret × Sto) := match r.1 with
  | .rt s => if w = true then some (.ok s, r.2.2) else cutR k s r.2.2
  | .nx => if w = true then some (.ok (.dat .none), r.2.2) else cutR k (.dat .none) r.2.2
  | .ex e => if x = true then (if w = true then some (.er e, r.2.2) else (cutM k r.2.2).map fun M' => (.er e, M')) else none
  | _ => none
def dFun (N : Nat) (body : DS) (x : Bool := false) (w : Bool := false) : FnT := fun ss M => (body (ss.map some ++ List.replicate (N - ss.length) none) M).bind (fnOut x w M.length)
def spD (c : Ct) (n : Nat) (g : FnT) : Sp := fun vs H Q E => ∃ F ι ss M r M', ss.length = n ∧ Rep (c.at F) ι H M ∧ IsSs (c.at F) ι H vs ss ∧ g ss M = some (r, M') ∧
  (∀ s, r = .ok s → Aft (c.at F) ι H M' s Q) ∧ ∀ e, r = .er e → ∀ cls d ι' H', Ext ι H ι' H' → Rep (c.at F) ι' H' M' → IsEr (c.at F) ι' H' cls d e → E cls d H'
theorem cutM_ok : ∀ {k : Nat} {M M' : Sto}, cutM k M = some M' → M' = M.take k ∧ k ≤ M.length ∧ ∀ (i : Nat) (cell : Cell), M'[i]? = some cell → ∃ d : D, cell = Cell.fl d
  | 0, M, M', e => by
    cases e
    exact ⟨by simp, Nat.zero_le _, fun i cell h => by simp at h⟩
  | k + 1, .fl d :: r, M', e => by
    obtain ⟨r', e', rfl⟩ := Option.map_eq_some_iff.mp e
    obtain ⟨h1, h2, h3⟩ := cutM_ok e'
    refine ⟨by rw [h1]; rfl, by rw [List.length_cons]; omega, fun i cell h => ?_⟩
    cases i with
    | zero => cases h; exact ⟨d, rfl⟩
    | succ i => exact h3 i cell h
  | k + 1, .ls _ :: _, _, e => by cases e
  | k + 1, .dc _ :: _, _, e => by cases e
  | k + 1, .ob _ _ :: _, _, e => by cases e
  | k + 1, .st _ :: _, _, e => by cases e
  | k + 1, [], _, e => by cases e
theorem Own.subFl {c : Ct} {ι ι' : List Addr} {H : Hp} {F F0 : List Addr} (s : ∀ a, a ∈ F ∨ a ∈ ι' → a ∈ F0 ∨ a ∈ ι) {a : Addr} {d : D} (h : Own (c.at F0) ι H a (.fl d)) : Own (c.at F) ι' H a (.fl d) := by
  cases h with
  | fl h => exact .fl (h.sub s)
/-- the changing objects made within are let go -/
theorem Rep.cutBack {c : Ct} {ι l : List Addr} {H : Hp} {M M' : Sto} {F : List Addr} {k : Nat} (hk : ι.length = k) (r : Rep (c.at F) (ι ++ l) H M) (e : cutM k M = some M') : Rep (c.at F) ι H M' := by
  obtain ⟨h1, h2, h3⟩ := cutM_ok e
  have hl : (ι ++ l).length = M.length := r.len
  rw [List.length_append] at hl
  refine ⟨by rw [h1, List.length_take]; omega, (List.nodup_append.mp r.nd).1, fun a h => ⟨fun q => (r.fr a h).1 (List.mem_append_left _ q), (r.fr a h).2⟩, fun n a d g1 g2 => ?_⟩
  have hn := (List.getElem?_eq_some_iff.mp g1).1
  obtain ⟨d', rfl⟩ := h3 n d g2
  rw [h1, List.getElem?_take_of_lt (by omega)] at g2
  exact (r.at_ n a _ (by rw [List.getElem?_append_left hn]; exact g1) g2).subFl (c := c) fun b hb => hb.imp id fun h => List.mem_append_left _ h
theorem Ext.back {ι l : List Addr} {H H' : Hp} (x : Ext ι H (ι ++ l) H') : Ext ι H ι H' := ⟨⟨[], by simp⟩, x.keep, x.dom⟩
theorem IsEr.sub {c : Ct} {ι ι' : List Addr} {H : Hp} {F F0 : List Addr} (s : ∀ a, a ∈ F ∨ a ∈ ι' → a ∈ F0 ∨ a ∈ ι) {cls : Value} {d : Option Addr} {e : Er} (h : IsEr (c.at F0) ι H cls d e) : IsEr (c.at F) ι' H cls d e := by
  obtain ⟨A, h1, h2, h3⟩ := h
  refine ⟨A, h1, h2, h3.imp id fun ⟨da, xs, e0, e1, e2, t⟩ => ⟨da, xs, e0, e1, e2, ?_⟩⟩
  have key : ∀ {l : List (Str × D)} {ys : List (Str × V)}, IsTs (c.at F0) ι H ys (l.map fun p => (p.1, SV.dat p.2)) → IsTs (c.at F) ι' H ys (l.map fun p => (p.1, SV.dat p.2)) := by
    intro l
    induction l with
    | nil => intro ys h; cases h; exact .nil
    | cons p l ih =>
      intro ys h
      cases h with
      | cons h t => cases h with | dat h => exact .cons (.dat (h.sub s)) (ih t)
  exact key t
theorem IsEr.mono {c : Ct} {ι ι' : List Addr} {H H' : Hp} (x : Ext ι H ι' H') {cls : Value} {d : Option Addr} {e : Er} (h : IsEr c ι H cls d e) (n : ∀ da, d = some da → da ∉ ι) : IsEr c ι' H' cls d e := by
  obtain ⟨A, h1, h2, h3⟩ := h
  exact ⟨A, h1, h2, h3.imp id fun ⟨da, xs, e0, e1, e2, t⟩ => ⟨da, xs, e0, e1, x.keep da _ (n da e1) e2, t.mono x⟩⟩
section
variable {P : Program} {w : World} {K : PySem.W.Frag} {mg : Str → Option Value} {base : Heap} {x qual : Str} {params : Arguments} {body : List Stmt} {scope : Scope} {f : Addr} {fd : FuncData}
theorem fn_ok {N ps : List Str} {k : Nat} {db : DS} {xx ww : Bool} (F : FunD K x qual params body scope [] [] f fd) (S : FnScope N ps scope) (hps : ps.length ≤ N.length := by decide)
    (hb : ∀ (cdv : Value) (A : Around) (outer : List Env) (s : Shared) (H : Hp) (E : XK), Room k (A.deeper (envOfC qual scope s.heap.objs.size f cdv)) →
      Takes (cxOf (L2.CX P w) P w K mg base N qual scope f cdv A outer s H E) (fun cls d _ H => E cls d H) → PassesOwn (model P w) (cxOf (L2.CX P w) P w K mg base N qual scope f cdv A outer s H E).A (cxOf (L2.CX P w) P w K mg base N qual scope f cdv A outer s H E).env (cxOf (L2.CX P w) P w K mg base N qual scope f cdv A outer s H E).xe → PDSs (cxOf (L2.CX P w) P w K mg base N qual scope f cdv A outer s H E) (fun cls d _ H => E cls d H) body db) :
    FnOk P w K mg base (L2.CX P w) (k + 1) f fd ps (spD ⟨P, w, K, mg, []⟩ ps.length (dFun N.length db xx ww)) := by
  refine F.ok S (fun vs H Q E h => ?_) (fun cdv A outer s H vs Q E hr h => ?_)
  · obtain ⟨F, ι, ss, M, d, M', hn, r, i, _⟩ := h
    rw [i.length]; exact hn
  · obtain ⟨F, ι, ss, M, d, M', hn, r, i, e, q, qe⟩ := h
    refine ⟨_, hb cdv A outer s H E hr (takes_of rfl rfl rfl rfl) (passes_of rfl), ?_⟩
    obtain ⟨⟨fl, Γ', M2⟩, e1, e⟩ := Option.bind_eq_some_iff.mp e
    have hvl := i.length
    refine ⟨F, ι, _, M, fl, Γ', M2, ⟨r, ?_, fun j s' hs => ?_⟩, e1, fun ι' σ' H' x1 w1 => ?_⟩
    · show (vs.map some ++ List.replicate (N.length - vs.length) none).length = _
      rw [List.length_append, List.length_append, List.length_map, List.length_map, List.length_replicate, List.length_replicate, hvl]
    · by_cases hj : j < ss.length
      · rw [List.getElem?_append_left (by rw [List.length_map]; exact hj), List.getElem?_map] at hs
        obtain ⟨t, ht, e⟩ := Option.map_eq_some_iff.mp hs
        cases e
        obtain ⟨v, h1, h2⟩ := i.get ht
        refine ⟨v, ?_, h2⟩
        show (vs.map some ++ List.replicate (N.length - vs.length) none)[j]? = _
        rw [List.getElem?_append_left (by rw [List.length_map, hvl]; exact hj), List.getElem?_map, h1]; rfl
      · rw [List.getElem?_append_right (by rw [List.length_map]; omega)] at hs
        have := List.mem_of_getElem? hs
        rw [List.mem_replicate] at this
        cases this.2
    · have hk := r.len
      obtain ⟨l, el, hl⟩ := id x1.pre
      have sb : ∀ a, a ∈ F ∨ a ∈ ι → a ∈ F ∨ a ∈ ι' := fun b hb => hb.imp id fun h => by rw [el]; exact List.mem_append_left _ h
      have cut : ∀ (s : SV) v, IsS (Ct.at ⟨P, w, K, mg, []⟩ F) ι' H' v s → cutR M.length s M2 = some (d, M') → Q v H' := fun s v iv e => by
        subst el
        cases s with
        | dat d' =>
          obtain ⟨M3, e2, e⟩ := Option.map_eq_some_iff.mp e
          cases e
          cases iv with
          | dat iv => exact q _ rfl v ι H' x1.back (w1.rep.cutBack (c := ⟨P, w, K, mg, []⟩) hk e2) (.dat (iv.sub (c := ⟨P, w, K, mg, []⟩) sb))
        | ptr n =>
          simp only [cutR] at e
          split at e
          case isFalse => cases e
          rename_i hkn
          obtain ⟨d', hd, e⟩ := Option.bind_eq_some_iff.mp e
          obtain ⟨M3, e2, e⟩ := Option.map_eq_some_iff.mp e
          cases e
          cases iv with
          | @ptr a _ ha =>
            cases w1.rep.at_ n a _ ha (flD_some hd) with
            | fl ow =>
            refine q _ rfl _ ι H' x1.back (w1.rep.cutBack (c := ⟨P, w, K, mg, []⟩) hk e2) (.dat ((ow.sub (c := ⟨P, w, K, mg, []⟩) sb).isD ⟨fun hm => ?_, fun hm => ?_⟩))
            · exact (w1.rep.fr a hm).1 (List.mem_of_getElem? ha)
            · have h3 : (ι ++ l)[n]? = some a := ha
              rw [List.getElem?_append_right (by rw [hk]; exact hkn)] at h3
              exact (List.nodup_append.mp w1.rep.nd).2.2 a hm a (List.mem_of_getElem? h3) rfl
      cases fl with
      | nx =>
        simp only [fnOut] at e
        split at e
        · cases e
          exact q _ rfl _ ι' H' x1 w1.rep (.dat .non)
        · exact cut _ _ (.dat .non) e
      | rt s =>
        intro v iv
        simp only [fnOut] at e
        split at e
        · cases e
          exact q _ rfl _ ι' H' x1 w1.rep iv
        · exact cut _ _ iv e
      | ex er =>
        intro cls dd ie
        simp only [fnOut] at e
        split at e
        case isFalse => cases e
        split at e
        · cases e
          exact qe _ rfl cls dd ι' H' x1 w1.rep ie
        · obtain ⟨M3, e2, e⟩ := Option.map_eq_some_iff.mp e
          cases e
          subst el
          exact qe _ rfl cls dd ι H' x1.back (w1.rep.cutBack (c := ⟨P, w, K, mg, []⟩) hk e2) (ie.sub (c := ⟨P, w, K, mg, []⟩) sb)
      | bk => cases e
      | ct => cases e
end
end EL
namespace EL
open PySem PySem.Spec PyProof.Rows L2

/-- the one changing object among the arguments -/
def onePtr : List SV → Option (Option Nat)
  | [] => some none
  | .dat _ :: r => onePtr r
  | .ptr n :: r => (onePtr r).bind fun o => match o with
    | none => some (some n)
    | some m => if m = n then some (some n) else none
def relab : List SV → List SV
  | [] => []
  | .dat d :: r => .dat d :: relab r
  | .ptr _ :: r => .ptr 0 :: relab r
/-- what comes back from a call that saw one object alone -/
def isoR : Ret → Option Ret
  | .ok (.dat d) => some (.ok (.dat d))
  | .er e => some (.er e)
  | .ok (.ptr _) => none
/-- the callee sees its one changing object alone -/
def callS (g : FnT) (ss : List SV) (M : Sto) : Option (Ret × Sto) := (onePtr ss).bind fun o => match o with
  | none => (g ss []).bind fun r => (isoR r.1).map fun q => (q, M)
  | some n => (flD M[n]?).bind fun d => (g (relab ss) [.fl d]).bind fun r => match r.2 with
    | [.fl d'] => (isoR r.1).map fun q => (q, M.set n (.fl d'))
    | _ => none
theorem IsSs.noPtr {c : Ct} {F ι ι' : List Addr} {F' : List Addr} {H : Hp} (s : ∀ a, a ∈ F' ∨ a ∈ ι' → a ∈ F ∨ a ∈ ι) : ∀ {ss : List SV} {vs : List V}, onePtr ss = some none → IsSs (c.at F) ι H vs ss → IsSs (c.at F') ι' H vs ss
  | [], _, _, h => by cases h; exact .nil
  | .dat d :: r, _, e, h => by
    cases h with
    | cons h t =>
      cases h with
      | dat h => exact .cons (.dat (h.sub s)) (IsSs.noPtr s e t)
  | .ptr n :: r, _, e, h => by
    obtain ⟨o, e1, e2⟩ := Option.bind_eq_some_iff.mp e
    cases o with
    | none => cases e2
    | some m =>
      simp only at e2
      split at e2 <;> cases e2
theorem IsSs.aPtr {c : Ct} {F ι : List Addr} {F' : List Addr} {H : Hp} {n : Nat} {a : Addr} (ha : ι[n]? = some a) (s : ∀ b, b ∈ F' ∨ b ∈ [a] → b ∈ F ∨ b ∈ ι) : ∀ {ss : List SV} {vs : List V} {o : Option Nat}, onePtr ss = some o → (o = none ∨ o = some n) → IsSs (c.at F) ι H vs ss → IsSs (c.at F') [a] H vs (relab ss)
  | [], _, _, _, _, h => by cases h; exact .nil
  | .dat d :: r, _, _, e, k, h => by
    cases h with
    | cons h t =>
      cases h with
      | dat h => exact .cons (.dat (h.sub s)) (IsSs.aPtr ha s e k t)
  | .ptr m :: r, _, _, e, k, h => by
    obtain ⟨o, e1, e2⟩ := Option.bind_eq_some_iff.mp e
    cases h with
    | cons h t =>
      cases h with
      | ptr h =>
        have hm : m = n ∧ (o = none ∨ o = some n) := by
          cases o with
          | none =>
            cases e2
            rcases k with k | k
            · cases k
            · exact ⟨Option.some.inj k, .inl rfl⟩
          | some m' =>
            simp only at e2
            split at e2
            · rename_i hmm
              cases e2
              rcases k with k | k
              · cases k
              · have := Option.some.inj k
                exact ⟨this, .inr (by rw [hmm, this])⟩
            · cases e2
        obtain ⟨rfl, k'⟩ := hm
        rw [ha] at h
        cases h
        exact .cons (.ptr rfl) (IsSs.aPtr ha s e1 k' t)
theorem relab_length : ∀ ss : List SV, (relab ss).length = ss.length
  | [] => rfl
  | .dat _ :: r => by rw [relab, List.length_cons, List.length_cons, relab_length r]
  | .ptr _ :: r => by rw [relab, List.length_cons, List.length_cons, relab_length r]
/-- what a call does to the caller's world -/
theorem call_ok {c : Ct} {F ι : List Addr} {H : Hp} {M M' : Sto} {n : Nat} {g : FnT} {ss : List SV} {vs : List V} {r0 : Ret} {Q : VK} {E : XK} (hn : ss.length = n) (r : Rep (c.at F) ι H M) (i : IsSs (c.at F) ι H vs ss) (e : callS g ss M = some (r0, M'))
    (q : ∀ s, r0 = .ok s → Aft (c.at F) ι H M' s Q) (qe : ∀ e, r0 = .er e → ∀ cls d ι' H', Ext ι H ι' H' → Rep (c.at F) ι' H' M' → IsEr (c.at F) ι' H' cls d e → E cls d H') : spD c n g vs H Q E := by
  obtain ⟨o, e1, e⟩ := Option.bind_eq_some_iff.mp e
  cases o with
  | none =>
    obtain ⟨⟨r2, M2⟩, e2, e⟩ := Option.bind_eq_some_iff.mp e
    obtain ⟨r3, e3, e⟩ := Option.map_eq_some_iff.mp e
    cases e
    have s1 : ∀ a, a ∈ F ++ ι ∨ a ∈ ([] : List Addr) → a ∈ F ∨ a ∈ ι := fun a h => h.elim (fun h => List.mem_append.mp h) fun h => nomatch h
    have s2 : ∀ a, a ∈ F ∨ a ∈ ι → a ∈ F ++ ι ∨ a ∈ ([] : List Addr) := fun a h => .inl (List.mem_append.mpr h)
    have back : ∀ ι2 H', Ext [] H ι2 H' → Ext ι H ι H' := fun ι2 H' x => ⟨⟨[], by simp⟩, fun a o _ h => x.keep a o (fun h => nomatch h) h, x.dom⟩
    have rb : ∀ ι2 H', Ext [] H ι2 H' → Rep (c.at F) ι H' M := fun ι2 H' x => ⟨r.len, r.nd, fun a h => ⟨(r.fr a h).1, let ⟨o, ho⟩ := (r.fr a h).2; ⟨o, x.keep a o (fun h => nomatch h) ho⟩⟩, fun n a d h1 h2 => (r.at_ n a d h1 h2).mono (back ι2 H' x) fun o ho => x.keep a o (fun h => nomatch h) ho⟩
    refine ⟨F ++ ι, [], ss, [], r2, M2, hn, ⟨rfl, .nil, fun a h => ⟨fun h => (nomatch h), ?_⟩, fun n a d h => (nomatch h)⟩, i.noPtr s1 e1, e2, fun s hs => ?_, fun er hs => ?_⟩
    · rcases List.mem_append.mp h with h | h
      · exact (r.fr a h).2
      · exact r.there h
    · subst hs
      cases s with
      | ptr k => cases e3
      | dat d =>
        cases e3
        intro v ι2 H' x r' iv
        cases iv with
        | dat iv => exact q _ rfl v ι H' (back _ _ x) (rb _ _ x) (.dat (iv.sub fun a h => (s2 a h).elim .inl fun z => nomatch z))
    · subst hs
      cases e3
      intro cls d ι2 H' x r' ie
      exact qe _ rfl cls d ι H' (back _ _ x) (rb _ _ x) (ie.sub fun a h => (s2 a h).elim .inl fun z => nomatch z)
  | some n' =>
    obtain ⟨d0, e2, e⟩ := Option.bind_eq_some_iff.mp e
    obtain ⟨⟨r2, M2⟩, e3, e⟩ := Option.bind_eq_some_iff.mp e
    split at e
    case h_2 => cases e
    rename_i d' heq
    simp only at heq
    subst heq
    obtain ⟨r3, e4, e⟩ := Option.map_eq_some_iff.mp e
    cases e
    have e2' := flD_some e2
    obtain ⟨a, ha⟩ := rep_ptr r e2'
    have hm : a ∈ ι := List.mem_of_getElem? ha
    have s1 : ∀ b, b ∈ F ++ ι.filter (fun b => decide (b ≠ a)) ∨ b ∈ [a] → b ∈ F ∨ b ∈ ι := fun b h => by
      rcases h with h | h
      · rcases List.mem_append.mp h with h | h
        · exact .inl h
        · exact .inr (List.mem_filter.mp h).1
      · rw [List.mem_singleton.mp h]
        exact .inr hm
    have s2 : ∀ b, b ∈ F ∨ b ∈ ι → b ∈ F ++ ι.filter (fun b => decide (b ≠ a)) ∨ b ∈ [a] := fun b h => by
      rcases h with h | h
      · exact .inl (List.mem_append_left _ h)
      · by_cases hb : b = a
        · exact .inr (List.mem_singleton.mpr hb)
        · exact .inl (List.mem_append_right _ (List.mem_filter.mpr ⟨h, decide_eq_true hb⟩))
    have back : ∀ ι2 H', Ext [a] H ι2 H' → Ext ι H ι H' := fun ι2 H' x => ⟨⟨[], by simp⟩, fun b o hb h => x.keep b o (fun hb' => hb (by rw [List.mem_singleton.mp hb']; exact hm)) h, x.dom⟩
    have fst : ∀ (ι2 : List Addr) (H' : Hp), Ext [a] H ι2 H' → ι2[0]? = some a := fun ι2 H' x => x.at (n := 0) rfl
    have s3 : ∀ (ι2 : List Addr) (H' : Hp), Ext [a] H ι2 H' → ∀ b, b ∈ F ∨ b ∈ ι → b ∈ F ++ ι.filter (fun b => decide (b ≠ a)) ∨ b ∈ ι2 := fun ι2 H' x b h => (s2 b h).imp id fun hb => by
      rw [List.mem_singleton.mp hb]
      exact List.mem_of_getElem? (fst ι2 H' x)
    have rb : ∀ ι2 H', Ext [a] H ι2 H' → Rep (c.at (F ++ ι.filter (fun b => decide (b ≠ a)))) ι2 H' [.fl d'] → Rep (c.at F) ι H' (M.set n' (.fl d')) := fun ι2 H' x r' => by
      refine ⟨by rw [List.length_set]; exact r.len, r.nd, fun b h => ⟨(r.fr b h).1, let ⟨o, ho⟩ := (r.fr b h).2; ⟨o, x.keep b o (fun hb' => (r.fr b h).1 (by rw [List.mem_singleton.mp hb']; exact hm)) ho⟩⟩, fun m b e' h1 h2 => ?_⟩
      by_cases hmn : m = n'
      · subst hmn
        rw [ha] at h1
        cases h1
        rw [List.getElem?_set_self (by rw [← r.len]; exact (List.getElem?_eq_some_iff.mp ha).1)] at h2
        cases h2
        exact (r'.at_ 0 a (.fl d') (fst ι2 H' x) rfl).subFl (c := c) (s3 ι2 H' x)
      · rw [List.getElem?_set_ne (Ne.symm hmn)] at h2
        have hb : b ≠ a := fun z => hmn ((List.getElem?_inj (List.getElem?_eq_some_iff.mp h1).1 r.nd).mp (by rw [h1, ha, z]))
        exact (r.at_ m b e' h1 h2).mono (back ι2 H' x) fun o ho => x.keep b o (fun hb' => hb (List.mem_singleton.mp hb')) ho
    refine ⟨F ++ ι.filter (fun b => decide (b ≠ a)), [a], relab ss, [.fl d0], r2, [.fl d'], by rw [relab_length]; exact hn, ⟨rfl, by simp, fun b h => ⟨fun h' => ?_, ?_⟩, fun m b e' h1 h2 => ?_⟩, i.aPtr ha s1 e1 (.inr rfl), e3, fun s hs => ?_, fun er hs => ?_⟩
    · have hb := List.mem_singleton.mp h'
      subst hb
      rcases List.mem_append.mp h with h | h
      · exact (r.fr b h).1 hm
      · exact absurd rfl (of_decide_eq_true (List.mem_filter.mp h).2)
    · rcases List.mem_append.mp h with h | h
      · exact (r.fr b h).2
      · exact r.there (List.mem_filter.mp h).1
    · cases m with
      | zero =>
        cases h1
        cases h2
        exact (r.at_ n' a _ ha e2').subFl (c := c) s1
      | succ m => cases h1
    · subst hs
      cases s with
      | ptr k => cases e4
      | dat d =>
        cases e4
        intro v ι2 H' x r' iv
        cases iv with
        | dat iv => exact q _ rfl v ι H' (back _ _ x) (rb _ _ x r') (.dat (iv.sub (s3 _ _ x)))
    · subst hs
      cases e4
      intro cls d ι2 H' x r' ie
      exact qe _ rfl cls d ι H' (back _ _ x) (rb _ _ x r') (ie.sub (s3 _ _ x))
/-- a callee that sees all -/
theorem callW_ok {c : Ct} {F ι : List Addr} {H : Hp} {M M' : Sto} {n : Nat} {g : FnT} {ss : List SV} {vs : List V} {r0 : Ret} {Q : VK} {E : XK} (hn : ss.length = n) (r : Rep (c.at F) ι H M) (i : IsSs (c.at F) ι H vs ss) (e : g ss M = some (r0, M'))
    (q : ∀ s, r0 = .ok s → Aft (c.at F) ι H M' s Q) (qe : ∀ e, r0 = .er e → ∀ cls d ι' H', Ext ι H ι' H' → Rep (c.at F) ι' H' M' → IsEr (c.at F) ι' H' cls d e → E cls d H') : spD c n g vs H Q E :=
  ⟨F, ι, ss, M, r0, M', hn, r, i, e, q, qe⟩
/-- iso: the callee sees its one object alone -/
def callA (iso : Bool) (g : FnT) (ss : List SV) (M : Sto) : Option (Ret × Sto) := if iso = true then callS g ss M else g ss M
theorem callA_ok {c : Ct} {F ι : List Addr} {H : Hp} {M M' : Sto} {n : Nat} {g : FnT} {ss : List SV} {vs : List V} {r0 : Ret} {Q : VK} {E : XK} {iso : Bool} (hn : ss.length = n) (r : Rep (c.at F) ι H M) (i : IsSs (c.at F) ι H vs ss) (e : callA iso g ss M = some (r0, M'))
    (q : ∀ s, r0 = .ok s → Aft (c.at F) ι H M' s Q) (qe : ∀ e, r0 = .er e → ∀ cls d ι' H', Ext ι H ι' H' → Rep (c.at F) ι' H' M' → IsEr (c.at F) ι' H' cls d e → E cls d H') : spD c n g vs H Q E := by
  unfold callA at e
  split at e
  · exact call_ok hn r i e q qe
  · exact callW_ok hn r i e q qe
def okR (r : Ret × Sto) : Option (SV × Sto) := match r.1 with
  | .ok s => some (s, r.2)
  | .er _ => none
theorem okR_some {r : Ret × Sto} {x : SV × Sto} (h : okR r = some x) : r = (.ok x.1, x.2) := by
  obtain ⟨r, M⟩ := r
  cases r with
  | ok s => cases h; rfl
  | er e => cases h
def dCall (g : FnT) (fr : DA) (iso : Bool := true) : DE := fun Γ M => (fr Γ M).bind fun p => (callA iso g p.1 p.2).bind okR
/-- expressions that may raise -/
abbrev DX := Ga → Sto → Option (Ret × Sto)
def rdX (c : Ct) (W : WX) (f : DX) : TE := fun σ H Q => ∃ F ι Γ M r M', Wd (c.at F) ι σ H Γ M ∧ f Γ M = some (r, M') ∧ (∀ s, r = .ok s → Aft (c.at F) ι H M' s Q) ∧
  ∀ e, r = .er e → ∀ cls d ι' H', Ext ι H ι' H' → Rep (c.at F) ι' H' M' → IsEr (c.at F) ι' H' cls d e → W cls d σ H'
abbrev PDX (X : Cx) (W : WX) (e : Expr) (f : DX) : Prop := PE X e (rdX (ctx X) W f)
def dCallX (g : FnT) (fr : DA) (iso : Bool := true) : DX := fun Γ M => (fr Γ M).bind fun p => callA iso g p.1 p.2
section
variable {X : Cx} {W : WX} {k : Nat} {f : Addr} {fd : FuncData} {ps : List Str} {g : FnT} {x : Str} {p pos : Pos} {e : Expr} {es : List Expr} {fr : DA} {iso : Bool}
/-- a def of the module, by name -/
structure Def (P : Program) (w : World) (K : PySem.W.Frag) (mg : Str → Option Value) (base : Heap) (k : Nat) (x : Str) (n : Nat) (g : FnT) : Prop where
  ex : ∃ (f : Addr) (fd : FuncData) (ps : List Str), FnOk P w K mg base (L2.CX P w) k f fd ps (spD ⟨P, w, K, mg, []⟩ n g) ∧ mg x = some (.ref f) ∧ PySem.W.keepIn K (.ref f) = true ∧ Binds K fd ps []
theorem Def.mono {P : Program} {w : World} {K : PySem.W.Frag} {mg : Str → Option Value} {base : Heap} {j k : Nat} {x : Str} {n : Nat} {g : FnT} (d : Def P w K mg base j x n g) (h : j ≤ k) : Def P w K mg base k x n g := let ⟨f, fd, ps, a, b, c, e⟩ := d.ex; ⟨f, fd, ps, a.mono h, b, c, e⟩
theorem pd_call {j n : Nat} (d : Def X.prog X.w X.K X.mg X.base j x n g) (hr : Room k X.A) (hg : Gl X x) (ha : PDA X (e :: es) fr) (hl : ∀ Γ M ss M', fr Γ M = some (ss, M') → ss.length = n) (hjk : j ≤ k := by decide) (hdb : (x == ("__debug__" : Str)) = false := by decide)
    (he : starEach (e :: es) X.env = (false, eval e X.env) :: starEach es X.env := by rfl) (hpl : (backTo pos (starEach es X.env)).any (·.1) = false := by rfl) : PD X (.Call (.Name x p) (e :: es) [] pos) (dCall g fr iso) := by
  obtain ⟨f, fd, ps, F, hm, hk, hb⟩ := d.ex
  refine PE.weak (pe_call (dvs := []) (ds := []) (E := E0) F (hr.mono hjk) hg hm hk hb .nil passL ha hdb he hpl) fun σ H Q ⟨F', ι, Γ, M, s, M', w, e, q⟩ => ?_
  obtain ⟨⟨ss, M1⟩, e1, e⟩ := Option.bind_eq_some_iff.mp e
  obtain ⟨⟨r0, M2⟩, e2, e⟩ := Option.bind_eq_some_iff.mp e
  have e3 := okR_some e
  refine ⟨F', ι, Γ, M, ss, M1, w, e1, fun vs ι1 H1 x1 r1 i1 => ?_⟩
  show spD _ _ _ (vs ++ []) _ _ _
  rw [List.append_nil]
  rw [e3] at e2
  exact callA_ok (c := ctx X) (hl _ _ _ _ e1) r1 i1 e2 (fun s' hs => by cases hs; exact fun v ι2 H2 x2 r2 i2 => q v ι2 H2 (x1.trans x2) r2 i2) fun _ hs => nomatch hs
theorem pd_call0 {j : Nat} (d : Def X.prog X.w X.K X.mg X.base j x 0 g) (hr : Room k X.A) (hg : Gl X x) (hjk : j ≤ k := by decide) (hdb : (x == ("__debug__" : Str)) = false := by decide) : PD X (.Call (.Name x p) [] [] pos) (dCall g dNil iso) := by
  obtain ⟨f, fd, ps, F, hm, hk, hb⟩ := d.ex
  refine PE.weak (pe_call0 (dvs := []) (ds := []) (E := E0) F (hr.mono hjk) hg hm hk hb .nil passL hdb) fun σ H Q ⟨F', ι, Γ, M, s, M', w, e, q⟩ => ?_
  obtain ⟨⟨ss, M1⟩, e1, e⟩ := Option.bind_eq_some_iff.mp e
  obtain ⟨⟨r0, M2⟩, e2, e⟩ := Option.bind_eq_some_iff.mp e
  have e3 := okR_some e
  cases e1
  rw [e3] at e2
  show spD _ _ _ [] _ _ _
  exact callA_ok (c := ctx X) rfl w.rep .nil e2 (fun s' hs => by cases hs; exact q) fun _ hs => nomatch hs
/-- a call that may raise -/
theorem pdx_call {j n : Nat} (d : Def X.prog X.w X.K X.mg X.base j x n g) (tk : Takes X W) (hr : Room k X.A) (hg : Gl X x) (ha : PDA X (e :: es) fr) (hl : ∀ Γ M ss M', fr Γ M = some (ss, M') → ss.length = n) (hjk : j ≤ k := by decide) (hdb : (x == ("__debug__" : Str)) = false := by decide)
    (he : starEach (e :: es) X.env = (false, eval e X.env) :: starEach es X.env := by rfl) (hpl : (backTo pos (starEach es X.env)).any (·.1) = false := by rfl) : PDX X W (.Call (.Name x p) (e :: es) [] pos) (dCallX g fr iso) := by
  obtain ⟨f, fd, ps, F, hm, hk, hb⟩ := d.ex
  refine PE.weak (pe_callS F (hr.mono hjk) hg hm hk hb (fun σ => passAt tk σ) ha hdb he hpl) fun σ H Q ⟨F', ι, Γ, M, s, M', w, e, q, qe⟩ => ?_
  obtain ⟨⟨ss, M1⟩, e1, e⟩ := Option.bind_eq_some_iff.mp e
  refine ⟨F', ι, Γ, M, ss, M1, w, e1, fun vs ι1 H1 x1 r1 i1 => ?_⟩
  exact callA_ok (c := ctx X) (hl _ _ _ _ e1) r1 i1 e (fun s' hs => fun v ι2 H2 x2 r2 i2 => q s' hs v ι2 H2 (x1.trans x2) r2 i2) fun er hs cls d ι2 H2 x2 r2 ie => qe er hs cls d ι2 H2 (x1.trans x2) r2 ie
theorem dlen0 : ∀ Γ M ss M', dNil Γ M = some (ss, M') → ss.length = 0 := fun _ _ _ _ e => dlen_nil e
theorem dlen3 {fa fb fc : DE} : ∀ Γ M ss M', dCons fa (dCons fb (dCons fc dNil)) Γ M = some (ss, M') → ss.length = 3 := fun _ _ _ _ e => dlen_cons dlen2 e
theorem dlen4 {fa fb fc fd : DE} : ∀ Γ M ss M', dCons fa (dCons fb (dCons fc (dCons fd dNil))) Γ M = some (ss, M') → ss.length = 4 := fun _ _ _ _ e => dlen_cons dlen3 e
theorem dlen5 {fa fb fc fd fe : DE} : ∀ Γ M ss M', dCons fa (dCons fb (dCons fc (dCons fd (dCons fe dNil)))) Γ M = some (ss, M') → ss.length = 5 := fun _ _ _ _ e => dlen_cons dlen4 e
theorem dlen6 {f1 fa fb fc fd fe : DE} : ∀ Γ M ss M', dCons f1 (dCons fa (dCons fb (dCons fc (dCons fd (dCons fe dNil))))) Γ M = some (ss, M') → ss.length = 6 := fun _ _ _ _ e => dlen_cons dlen5 e
theorem dlen7 {f2 f1 fa fb fc fd fe : DE} : ∀ Γ M ss M', dCons f2 (dCons f1 (dCons fa (dCons fb (dCons fc (dCons fd (dCons fe dNil)))))) Γ M = some (ss, M') → ss.length = 7 := fun _ _ _ _ e => dlen_cons dlen6 e
end
end EL
namespace EL
open PySem PySem.Spec PyProof.Rows L2

def TyP (X : Cx) (T : String) (x : V) (H : Hp) : Prop := ∀ (pins : List (Addr × Obj)) (σ : L2.St) (s : Shared) (v : Value), Inv X pins σ H s → RelV x v → s.TypeIs v T ∧ ∀ a, v = .ref a → ∃ ob, s.heap.get? a = some ob ∧ ob.dict = none
section
variable {X : Cx} {o e : Expr} {es : List Expr} {to : TE} {t : TA} {name : Str} {apos cpos : Pos} {T id : String} {r : V → List V → Hp → VK → Prop}
theorem pe_bmG (pa : PlainAttrs T) (slot : Slot T name id) (hty : typeOf (.builtin id) = pure (.type "method_descriptor")) (hm : MtR X id r) (ho : PE X o to) (ha : PA X (e :: es) t)
    (hbase : attributeBase o name X.env (eval o X.env) = eval o X.env := by rfl)
    (hfew : ((backTo cpos (starEach (e :: es) X.env)).all (fun x => !x.1) && (backToKw cpos (keywordEach [] X.env)).all (fun x => x.1.isSome)
      && decide ((e :: es).length + ([] : List Keyword).length + (if ([] : List Keyword).isEmpty then 0 else 1) < 30)) = true := by rfl)
    (hline : (apos.endLine == cpos.line) = true := by rfl) (hs : starEach (e :: es) X.env = (false, eval e X.env) :: starEach es X.env := by rfl) (hplain : (backTo cpos (starEach es X.env)).any (·.1) = false := by rfl) :
    PE X (.Call (.Attribute o name apos) (e :: es) [] cpos) (fun σ H Q => to σ H fun x H1 => TyP X T x H1 ∧ t σ H1 fun xs H2 => r x xs H2 Q) := by
  refine ⟨fun pins s σ H Q I h => ?_⟩
  refine wpAny_Call_method_late hbase hfew hline rfl (thn (ho.run pins s σ H _ I h) fun v s1 ⟨x, H1, I1, r1, ty, q1⟩ => ?_)
  obtain ⟨h1, h2⟩ := ty pins σ s1 v I1 r1
  refine ⟨T, id, pa, slot, hty, h1, h2, ?_⟩
  have hA := ha.run cpos pins s1 σ H1 _ I1 q1
  rw [hs] at hA ⊢
  refine Calls.callWith_builtin (by show (false || (backTo cpos (starEach es X.env)).any (·.1)) = false; rw [hplain] <;> rfl) (Calls.evalArgs_plain ?_)
  exact thn hA fun us s2 ⟨vs, H2, I2, r2, q2⟩ => hm pins s2 σ H2 x vs v us Q I2 r1 r2 q2
theorem pe_bmG0 (pa : PlainAttrs T) (slot : Slot T name id) (hty : typeOf (.builtin id) = pure (.type "method_descriptor")) (hm : MtR X id r) (ho : PE X o to)
    (hbase : attributeBase o name X.env (eval o X.env) = eval o X.env := by rfl) (hline : (apos.endLine == cpos.line) = true := by rfl) : PE X (.Call (.Attribute o name apos) [] [] cpos) (fun σ H Q => to σ H fun x H1 => TyP X T x H1 ∧ r x [] H1 Q) := by
  refine ⟨fun pins s σ H Q I h => ?_⟩
  refine wpAny_Call_method0_late hbase hline (thn (ho.run pins s σ H _ I h) fun v s1 ⟨x, H1, I1, r1, ty, q1⟩ => ?_)
  obtain ⟨h1, h2⟩ := ty pins σ s1 v I1 r1
  exact ⟨T, id, pa, slot, hty, h1, h2, Calls.callWith_builtin rfl (PySem.evalArgs_none (hm pins s1 σ H1 x [] v [] Q I1 r1 .nil q1))⟩
end
def tyD : String → D → Bool
  | "list", .list _ => true
  | "dict", .dict _ => true
  | "str", .str _ => true
  | _, _ => false
theorem tyP_of {X : Cx} {F ι : List Addr} {H : Hp} {v : V} {d : D} {T : String} (R : Rdb ((ctx X).at F) ι H v d) (h : tyD T d = true) : TyP X T v H := by
  intro pins σ s u I r
  unfold tyD at h
  split at h
  · obtain ⟨a, xs, rfl, hp, t⟩ := R.lst
    exact tyV_is I r (T := "list") (.inl ⟨rfl, xs, .of hp⟩)
  · rename_i kvs
    cases hn : isN kvs with
    | true =>
      obtain ⟨r', rfl⟩ := isN_cons hn
      obtain ⟨a, rfl, xs, ha, t⟩ := R.dn
      cases r
      obtain ⟨h1, h2, hd⟩ := dn_at I ha t
      obtain ⟨o, es, ep, e1, ex, _⟩ := hd
      exact ⟨⟨o, e1, ex.1⟩, fun b e => by cases e; exact ⟨o, e1, ex.2.1⟩⟩
    | false =>
      obtain ⟨a, xs, rfl, ha, t⟩ := R.dk hn
      exact tyV_is I r (T := "dict") (.inr (.inr (.inl ⟨rfl, .inl ⟨_, ha⟩⟩)))
  · cases R.str
    exact tyV_is I r (T := "str") rfl
  · cases h

/-- a method that only reads -/
def dMeth (T : String) (g : D → List D → Option OR) (fo : DE) (fr : DA) (m : Bool := false) : DE := fun Γ M => (fo Γ M).bind fun p => (val p.1 p.2).bind fun d1 => if tyD T d1 = true then (fr Γ p.2).bind fun q => (val p.1 q.2).bind fun d => (vals q.1 q.2).bind fun ds => (g d ds).map fun o => o.out m q.2 else none
def RMD (c : Ct) (r : V → List V → Hp → VK → Prop) (g : D → List D → Option OR) : Prop := ∀ (F ι : List Addr) (H : Hp) (M : Sto) (m : Bool) (x : V) (xs : List V) (d : D) (ds : List D) (o : OR) (Q : VK), Rep (c.at F) ι H M → Rdb (c.at F) ι H x d → Rdbs (c.at F) ι H xs ds → g d ds = some o → AftO (c.at F) ι H M m o Q → r x xs H Q
/-- a method that writes its object -/
def tyC : String → Cell → Bool
  | T, .fl d => tyD T d
  | "list", .ls _ => true
  | "dict", .dc _ => true
  | _, _ => false
theorem tyC_of {X : Cx} {F ι : List Addr} {H : Hp} {a : Addr} {d : Cell} {T : String} (R : Own ((ctx X).at F) ι H a d) (h : tyC T d = true) : TyP X T (.ref a) H := by
  cases R with
  | fl R =>
    unfold tyC at h
    exact tyP_of (Rdb.own R) h
  | ls hp t =>
    intro pins σ s u I r
    unfold tyC at h
    split at h
    · contradiction
    · exact tyV_is I r (T := "list") (.inl ⟨rfl, _, .of hp⟩)
    · contradiction
    · cases h
  | dc hp t =>
    intro pins σ s u I r
    unfold tyC at h
    split at h
    · contradiction
    · contradiction
    · exact tyV_is I r (T := "dict") (.inr (.inr (.inl ⟨rfl, .inl ⟨_, hp⟩⟩)))
    · cases h
  | ob hp hm t =>
    unfold tyC at h
    split at h <;> first | contradiction | cases h
  | st hp hS nd =>
    unfold tyC at h
    split at h <;> first | contradiction | cases h
def dMethW (T : String) (g : Cell → List SV → Option (Cell × SV)) (fo : DE) (fr : DA) : DE := fun Γ M => (fo Γ M).bind fun p => match p.1 with
  | .ptr n => (p.2[n]?).bind fun d1 => if tyC T d1 = true then (fr Γ p.2).bind fun q => (q.2[n]?).bind fun d => (g d q.1).map fun o => (o.2, q.2.set n o.1) else none
  | _ => none
def RMW (c : Ct) (r : V → List V → Hp → VK → Prop) (g : Cell → List SV → Option (Cell × SV)) : Prop := ∀ (F ι : List Addr) (H : Hp) (M : Sto) (a : Addr) (n : Nat) (xs : List V) (d d' : Cell) (res : SV) (ds : List SV) (Q : VK), Rep (c.at F) ι H M → ι[n]? = some a → Own (c.at F) ι H a d → IsSs (c.at F) ι H xs ds → g d ds = some (d', res) →
  (∀ v H', Ext ι H ι H' → Rep (c.at F) ι H' (M.set n d') → IsS (c.at F) ι H' v res → Q v H') → r (.ref a) xs H Q
section
variable {X : Cx} {o e : Expr} {es : List Expr} {fo : DE} {fr : DA} {name : Str} {apos cpos : Pos} {T id : String} {r : V → List V → Hp → VK → Prop} {m : Bool}
theorem rd_meth {g : D → List D → Option OR} (hr : RMD (ctx X) r g) {σ : L2.St} {H : Hp} {Q : VK} (q : rdE (ctx X) (dMeth T g fo fr m) σ H Q) : (rdE (ctx X) fo) σ H fun x H1 => TyP X T x H1 ∧ (rdA (ctx X) fr) σ H1 fun xs H2 => r x xs H2 Q := by
  obtain ⟨F, ι, Γ, M, s, M', w, e, k⟩ := q
  obtain ⟨⟨so, M1⟩, e1, e⟩ := Option.bind_eq_some_iff.mp e
  obtain ⟨d1, e2, e⟩ := Option.bind_eq_some_iff.mp e
  split at e
  case isFalse => cases e
  rename_i ht
  obtain ⟨⟨ss, M2⟩, e3, e⟩ := Option.bind_eq_some_iff.mp e
  obtain ⟨d, e4, e⟩ := Option.bind_eq_some_iff.mp e
  obtain ⟨ds, e5, e⟩ := Option.bind_eq_some_iff.mp e
  obtain ⟨o, e6, e⟩ := Option.map_eq_some_iff.mp e
  refine ⟨F, ι, Γ, M, so, M1, w, e1, fun v ι1 H1 x1 r1 i1 => ⟨tyP_of (rdb_of r1 i1 e2) ht, ?_⟩⟩
  refine ⟨F, ι1, Γ, M1, ss, M2, w.next x1 r1, e3, fun vs ι2 H2 x2 r2 i2 => ?_⟩
  refine hr F ι2 H2 M2 m v vs d ds o Q r2 (rdb_of r2 (i1.mono x2) e4) (vals_ok r2 e5 i2) e6 fun v' ι3 H3 x3 r3 i3 => ?_
  simp only [e] at r3 i3
  exact k v' ι3 H3 (x1.trans (x2.trans x3)) r3 i3
theorem pd_meth {g : D → List D → Option OR} (pa : PlainAttrs T) (slot : Slot T name id) (hty : typeOf (.builtin id) = pure (.type "method_descriptor")) (hm : MtR X id r) (hr : RMD (ctx X) r g) (ho : PD X o fo) (ha : PDA X (e :: es) fr)
    (hbase : attributeBase o name X.env (eval o X.env) = eval o X.env := by rfl)
    (hfew : ((backTo cpos (starEach (e :: es) X.env)).all (fun x => !x.1) && (backToKw cpos (keywordEach [] X.env)).all (fun x => x.1.isSome)
      && decide ((e :: es).length + ([] : List Keyword).length + (if ([] : List Keyword).isEmpty then 0 else 1) < 30)) = true := by rfl)
    (hline : (apos.endLine == cpos.line) = true := by rfl) (hs : starEach (e :: es) X.env = (false, eval e X.env) :: starEach es X.env := by rfl) (hplain : (backTo cpos (starEach es X.env)).any (·.1) = false := by rfl) :
    PD X (.Call (.Attribute o name apos) (e :: es) [] cpos) (dMeth T g fo fr m) :=
  PE.weak (pe_bmG pa slot hty hm ho ha hbase hfew hline hs hplain) fun _ _ _ => rd_meth hr
theorem pd_meth0 {g : D → List D → Option OR} (pa : PlainAttrs T) (slot : Slot T name id) (hty : typeOf (.builtin id) = pure (.type "method_descriptor")) (hm : MtR X id r) (hr : RMD (ctx X) r g) (ho : PD X o fo)
    (hbase : attributeBase o name X.env (eval o X.env) = eval o X.env := by rfl) (hline : (apos.endLine == cpos.line) = true := by rfl) : PD X (.Call (.Attribute o name apos) [] [] cpos) (dMeth T g fo dNil m) :=
  PE.weak (pe_bmG0 pa slot hty hm ho hbase hline) fun σ H Q q => by
    obtain ⟨F, ι, Γ, M, s, M', w, e, k⟩ := rd_meth (X := X) (fr := dNil) hr q
    refine ⟨F, ι, Γ, M, s, M', w, e, fun v ι1 H1 x1 r1 i1 => ?_⟩
    obtain ⟨h1, F', ι', Γ', M2, ss, M3, w2, e2, k2⟩ := k v ι1 H1 x1 r1 i1
    cases e2
    exact ⟨h1, k2 [] ι' H1 .refl w2.rep .nil⟩
theorem rd_methW {g : Cell → List SV → Option (Cell × SV)} (hr : RMW (ctx X) r g) {σ : L2.St} {H : Hp} {Q : VK} (q : rdE (ctx X) (dMethW T g fo fr) σ H Q) : (rdE (ctx X) fo) σ H fun x H1 => TyP X T x H1 ∧ (rdA (ctx X) fr) σ H1 fun xs H2 => r x xs H2 Q := by
  obtain ⟨F, ι, Γ, M, s, M', w, e, k⟩ := q
  obtain ⟨⟨so, M1⟩, e1, e⟩ := Option.bind_eq_some_iff.mp e
  refine ⟨F, ι, Γ, M, so, M1, w, e1, fun v ι1 H1 x1 r1 i1 => ?_⟩
  simp only at e
  split at e
  case h_2 => cases e
  rename_i n
  obtain ⟨d1, e2, e⟩ := Option.bind_eq_some_iff.mp e
  split at e
  case isFalse => cases e
  rename_i ht
  obtain ⟨⟨ss, M2⟩, e3, e⟩ := Option.bind_eq_some_iff.mp e
  obtain ⟨d, e4, e⟩ := Option.bind_eq_some_iff.mp e
  obtain ⟨⟨d', res⟩, e6, e⟩ := Option.map_eq_some_iff.mp e
  cases e
  cases i1 with
  | @ptr a _ ha =>
    refine ⟨tyC_of (r1.at_ n a _ ha e2) ht, F, ι1, Γ, M1, ss, M2, w.next x1 r1, e3, fun vs ι2 H2 x2 r2 i2 => ?_⟩
    have ha2 := x2.at ha
    exact hr F ι2 H2 M2 a n vs d d' res ss Q r2 ha2 (r2.at_ n a d ha2 e4) i2 e6 fun v' H3 x3 r3 i3 => k v' ι2 H3 (x1.trans (x2.trans x3)) r3 i3
theorem pd_methW {g : Cell → List SV → Option (Cell × SV)} (pa : PlainAttrs T) (slot : Slot T name id) (hty : typeOf (.builtin id) = pure (.type "method_descriptor")) (hm : MtR X id r) (hr : RMW (ctx X) r g) (ho : PD X o fo) (ha : PDA X (e :: es) fr)
    (hbase : attributeBase o name X.env (eval o X.env) = eval o X.env := by rfl)
    (hfew : ((backTo cpos (starEach (e :: es) X.env)).all (fun x => !x.1) && (backToKw cpos (keywordEach [] X.env)).all (fun x => x.1.isSome)
      && decide ((e :: es).length + ([] : List Keyword).length + (if ([] : List Keyword).isEmpty then 0 else 1) < 30)) = true := by rfl)
    (hline : (apos.endLine == cpos.line) = true := by rfl) (hs : starEach (e :: es) X.env = (false, eval e X.env) :: starEach es X.env := by rfl) (hplain : (backTo cpos (starEach es X.env)).any (·.1) = false := by rfl) :
    PD X (.Call (.Attribute o name apos) (e :: es) [] cpos) (dMethW T g fo fr) :=
  PE.weak (pe_bmG pa slot hty hm ho ha hbase hfew hline hs hplain) fun _ _ _ => rd_methW hr
theorem pd_methW0 {g : Cell → List SV → Option (Cell × SV)} (pa : PlainAttrs T) (slot : Slot T name id) (hty : typeOf (.builtin id) = pure (.type "method_descriptor")) (hm : MtR X id r) (hr : RMW (ctx X) r g) (ho : PD X o fo)
    (hbase : attributeBase o name X.env (eval o X.env) = eval o X.env := by rfl) (hline : (apos.endLine == cpos.line) = true := by rfl) : PD X (.Call (.Attribute o name apos) [] [] cpos) (dMethW T g fo dNil) :=
  PE.weak (pe_bmG0 pa slot hty hm ho hbase hline) fun σ H Q q => by
    obtain ⟨F, ι, Γ, M, s, M', w, e, k⟩ := rd_methW (X := X) (fr := dNil) hr q
    refine ⟨F, ι, Γ, M, s, M', w, e, fun v ι1 H1 x1 r1 i1 => ?_⟩
    obtain ⟨h1, F', ι', Γ', M2, ss, M3, w2, e2, k2⟩ := k v ι1 H1 x1 r1 i1
    cases e2
    exact ⟨h1, k2 [] ι' H1 .refl w2.rep .nil⟩
/-- the object's new list -/
theorem Rep.putL {c : Ct} {ι : List Addr} {H : Hp} {M : Sto} {n : Nat} {a : Addr} {xs : List V} {ds : List D} (r : Rep c ι H M) (ha : ι[n]? = some a) (t : IsDs c ι H xs ds) : Ext ι H ι (upd H a (.lst xs)) ∧ Rep c ι (upd H a (.lst xs)) (M.set n (.fl (.list ds))) :=
  ⟨Ext.write ha, r.write ha (.fl (.lst upd_same (t.mono (Ext.write ha))))⟩
theorem Rep.putS {c : Ct} {ι : List Addr} {H : Hp} {M : Sto} {n : Nat} {a : Addr} {xs : List V} {ds : List SV} (r : Rep c ι H M) (ha : ι[n]? = some a) (t : IsSs c ι H xs ds) : Ext ι H ι (upd H a (.lst xs)) ∧ Rep c ι (upd H a (.lst xs)) (M.set n (.ls ds)) :=
  ⟨Ext.write ha, r.write ha (.ls upd_same (t.mono (Ext.write ha)))⟩
def cAppend : Cell → List SV → Option (Cell × SV)
  | .fl (.list xs), [.dat d] => if xs.length < LIM then some (.fl (.list (xs ++ [d])), .dat .none) else none
  | .fl (.list xs), [.ptr n] => if xs.length < LIM then some (.ls (xs.map .dat ++ [.ptr n]), .dat .none) else none
  | .ls xs, [s] => if xs.length < LIM then some (.ls (xs ++ [s]), .dat .none) else none
  | _, _ => none
theorem pd_append (ho : PD X o fo) (ha : PDA X [e] fr) (hbase : attributeBase o "append" X.env (eval o X.env) = eval o X.env := by rfl) (hline : (apos.endLine == cpos.line) = true := by rfl) (hs : starEach [e] X.env = (false, eval e X.env) :: starEach [] X.env := by rfl)
    (hfew : ((backTo cpos (starEach [e] X.env)).all (fun x => !x.1) && (backToKw cpos (keywordEach [] X.env)).all (fun x => x.1.isSome)
      && decide ([e].length + ([] : List Keyword).length + (if ([] : List Keyword).isEmpty then 0 else 1) < 30)) = true := by rfl) : PD X (.Call (.Attribute o "append" apos) [e] [] cpos) (dMethW "list" cAppend fo fr) :=
  pd_methW PySem.F.plainAttrs_list PySem.F.slot_list_append PySem.F.type_list_append mt_append (fun F ι H M a n xs d d' res ds Q r ha ow t e k => by
    unfold cAppend at e
    split at e
    · split at e
      · rename_i hl
        cases e
        cases ow with
        | fl ow =>
        cases ow with
        | @lst ys _ hp u =>
          cases t with
          | cons h t =>
            cases t
            cases h with
            | dat h =>
            obtain ⟨x1, r1⟩ := r.putL ha (u.append (.cons h .nil))
            exact ⟨a, ys, _, rfl, rfl, hp, by rw [u.length]; exact lim_lt (Nat.le_of_lt hl), k _ _ x1 r1 (.dat .non)⟩
      · cases e
    · split at e
      · rename_i hl
        cases e
        cases ow with
        | fl ow =>
        cases ow with
        | @lst ys _ hp u =>
          cases t with
          | cons h t =>
            cases t
            obtain ⟨x1, r1⟩ := r.putS ha (u.ss.append (.cons h .nil))
            exact ⟨a, ys, _, rfl, rfl, hp, by rw [u.length]; exact lim_lt (Nat.le_of_lt hl), k _ _ x1 r1 (.dat .non)⟩
      · cases e
    · split at e
      · rename_i hl
        cases e
        cases ow with
        | @ls ys _ hp u =>
          cases t with
          | cons h t =>
            cases t
            obtain ⟨x1, r1⟩ := r.putS ha (u.append (.cons h .nil))
            exact ⟨a, ys, _, rfl, rfl, hp, by rw [u.length]; exact lim_lt (Nat.le_of_lt hl), k _ _ x1 r1 (.dat .non)⟩
      · cases e
    · cases e) ho ha hbase hfew hline hs rfl
def cInsert : Cell → List SV → Option (Cell × SV)
  | .fl (.list xs), [.dat (.int i), .dat d] => if xs.length < LIM ∧ 0 ≤ i ∧ i ≤ 1000000000 then some (.fl (.list (xs.take i.toNat ++ [d] ++ xs.drop i.toNat)), .dat .none) else none
  | .fl (.list xs), [.dat (.int i), .ptr n] => if xs.length < LIM ∧ 0 ≤ i ∧ i ≤ 1000000000 then some (.ls ((xs.map .dat).take i.toNat ++ [.ptr n] ++ (xs.map .dat).drop i.toNat), .dat .none) else none
  | .ls xs, [.dat (.int i), s] => if xs.length < LIM ∧ 0 ≤ i ∧ i ≤ 1000000000 then some (.ls (xs.take i.toNat ++ [s] ++ xs.drop i.toNat), .dat .none) else none
  | _, _ => none
theorem pd_insert {e2 : Expr} (ho : PD X o fo) (ha : PDA X [e, e2] fr) (hbase : attributeBase o "insert" X.env (eval o X.env) = eval o X.env := by rfl) (hline : (apos.endLine == cpos.line) = true := by rfl) (hs : starEach [e, e2] X.env = (false, eval e X.env) :: starEach [e2] X.env := by rfl)
    (hfew : ((backTo cpos (starEach [e, e2] X.env)).all (fun x => !x.1) && (backToKw cpos (keywordEach [] X.env)).all (fun x => x.1.isSome)
      && decide ([e, e2].length + ([] : List Keyword).length + (if ([] : List Keyword).isEmpty then 0 else 1) < 30)) = true := by rfl) (hplain : (backTo cpos (starEach [e2] X.env)).any (·.1) = false := by rfl) : PD X (.Call (.Attribute o "insert" apos) [e, e2] [] cpos) (dMethW "list" cInsert fo fr) :=
  pd_methW PySem.F.plainAttrs_list PySem.F.slot_list_insert PySem.F.type_list_insert mt_insert (fun F ι H M a n xs d d' res ds Q r ha ow t e k => by
    unfold cInsert at e
    split at e
    · split at e
      · rename_i hl
        cases e
        cases ow with
        | fl ow =>
        cases ow with
        | @lst ys _ hp u =>
          cases t with
          | cons h t =>
            cases t with
            | cons h' t =>
              cases t
              cases h with
              | dat h =>
              cases h
              cases h' with
              | dat h' =>
              obtain ⟨x1, r1⟩ := r.putL ha (((u.take _).append (.cons h' .nil)).append (u.drop _))
              exact ⟨a, ys, _, _, rfl, rfl, hp, by rw [u.length]; exact lim_lt (Nat.le_of_lt hl.1), hl.2.1, by omega, k _ _ x1 r1 (.dat .non)⟩
      · cases e
    · split at e
      · rename_i hl
        cases e
        cases ow with
        | fl ow =>
        cases ow with
        | @lst ys _ hp u =>
          cases t with
          | cons h t =>
            cases t with
            | cons h' t =>
              cases t
              cases h with
              | dat h =>
              cases h
              obtain ⟨x1, r1⟩ := r.putS ha (((u.ss.take _).append (.cons h' .nil)).append (u.ss.drop _))
              exact ⟨a, ys, _, _, rfl, rfl, hp, by rw [u.length]; exact lim_lt (Nat.le_of_lt hl.1), hl.2.1, by omega, k _ _ x1 r1 (.dat .non)⟩
      · cases e
    · split at e
      · rename_i hl
        cases e
        cases ow with
        | @ls ys _ hp u =>
          cases t with
          | cons h t =>
            cases t with
            | cons h' t =>
              cases t
              cases h with
              | dat h =>
              cases h
              obtain ⟨x1, r1⟩ := r.putS ha (((u.take _).append (.cons h' .nil)).append (u.drop _))
              exact ⟨a, ys, _, _, rfl, rfl, hp, by rw [u.length]; exact lim_lt (Nat.le_of_lt hl.1), hl.2.1, by omega, k _ _ x1 r1 (.dat .non)⟩
      · cases e
    · cases e) ho ha hbase hfew hline hs hplain
def rGetAll2 (c : Ct) : V → List V → Hp → VK → Prop := fun x vs H Q => rGetN c x vs H Q ∨ rGetK x vs H Q
def mGet : D → List D → Option OR
  | .dict kvs, [kd, dd] => if dKey kvs kd then some (.dat ((dLook (dRest kvs) kd).getD dd)) else none
  | _, _ => none
theorem mGet_some {d : D} {ds : List D} {o : OR} (h : mGet d ds = some o) : ∃ kvs kd dd, d = .dict kvs ∧ ds = [kd, dd] ∧ dKey kvs kd = true ∧ o = .dat ((dLook (dRest kvs) kd).getD dd) := by
  unfold mGet at h
  split at h
  · split at h
    · rename_i ok
      cases h
      exact ⟨_, _, _, rfl, rfl, ok, rfl⟩
    · cases h
  · cases h
/-- d.get(k, x), x a datum -/
def dGet (fo : DE) (fr : DA) : DE := fun Γ M => (fo Γ M).bind fun p => (val p.1 p.2).bind fun d1 => if tyD "dict" d1 = true then (fr Γ p.2).bind fun q => (val p.1 q.2).bind fun d => (dats q.1).bind fun ds => (mGet d ds).map fun o => o.out false q.2 else none
theorem pd_get2 {k : Nat} (hr : Room k X.A) {e2 : Expr} (ho : PD X o fo) (ha : PDA X [e, e2] fr) (hbase : attributeBase o "get" X.env (eval o X.env) = eval o X.env := by rfl) (hline : (apos.endLine == cpos.line) = true := by rfl) (hs : starEach [e, e2] X.env = (false, eval e X.env) :: starEach [e2] X.env := by rfl)
    (hfew : ((backTo cpos (starEach [e, e2] X.env)).all (fun x => !x.1) && (backToKw cpos (keywordEach [] X.env)).all (fun x => x.1.isSome)
      && decide ([e, e2].length + ([] : List Keyword).length + (if ([] : List Keyword).isEmpty then 0 else 1) < 30)) = true := by rfl) (hplain : (backTo cpos (starEach [e2] X.env)).any (·.1) = false := by rfl) : PD X (.Call (.Attribute o "get" apos) [e, e2] [] cpos) (dGet fo fr) :=
  PE.weak (pe_bmG (r := rGetAll2 (ctx X)) PySem.F.plainAttrs_dict PySem.F.slot_dict_get PySem.F.type_dict_get (MtR.or (mt_getN hr) (mt_getK hr)) ho ha hbase hfew hline hs hplain) fun σ H Q ⟨F, ι, Γ, M, s, M', w, e, k⟩ => by
    obtain ⟨⟨so, M1⟩, e1, e⟩ := Option.bind_eq_some_iff.mp e
    obtain ⟨d1, e2, e⟩ := Option.bind_eq_some_iff.mp e
    split at e
    case isFalse => cases e
    rename_i ht
    obtain ⟨⟨ss, M2⟩, e3, e⟩ := Option.bind_eq_some_iff.mp e
    obtain ⟨d, e4, e⟩ := Option.bind_eq_some_iff.mp e
    obtain ⟨ds, e5, e⟩ := Option.bind_eq_some_iff.mp e
    obtain ⟨o, e6, e⟩ := Option.map_eq_some_iff.mp e
    refine ⟨F, ι, Γ, M, so, M1, w, e1, fun v ι1 H1 x1 r1 i1 => ⟨tyP_of (rdb_of r1 i1 e2) ht, ?_⟩⟩
    refine ⟨F, ι1, Γ, M1, ss, M2, w.next x1 r1, e3, fun vs ι2 H2 x2 r2 i2 => ?_⟩
    have R := rdb_of r2 (i1.mono x2) e4
    have Rs := dats_ok e5 i2
    obtain ⟨kvs, kd, dd, rfl, rfl, ok, rfl⟩ := mGet_some e6
    cases e
    cases Rs with
    | cons R1 Rs =>
    cases Rs with
    | cons R2 Rs =>
    cases Rs
    have fin : ∀ v, IsD ((ctx X).at F) ι2 H2 v ((dLook (dRest kvs) kd).getD dd) → Q v H2 := fun v hv => k v ι2 H2 (x1.trans x2) r2 (.dat hv)
    cases hn : isN kvs with
    | true =>
      obtain ⟨r, rfl⟩ := isN_cons hn
      obtain ⟨q, rfl⟩ := key_ref (dKey_n ok) R1
      obtain ⟨a, rfl, ha⟩ := R.dn
      exact .inl ⟨F, ι2, a, q, _, _, _, _, rfl, rfl, ha, R1, dKey_n ok, R2, fin⟩
    | false =>
      obtain ⟨ky, rfl⟩ := dKey_k hn ok
      rw [dRest_k hn] at fin
      obtain ⟨a, xs, rfl, ha, t⟩ := R.dk hn
      cases keyK_V R1
      refine .inr ⟨a, ky, _, xs, rfl, rfl, ha, fin _ ?_⟩
      obtain ⟨_, g2, g3⟩ := IsKs.look (k := ky) t
      cases hl : dLook kvs (keyD ky) with
      | none => rw [g3 hl]; exact R2
      | some d => obtain ⟨v, h1, h2⟩ := g2 d hl; rw [h1]; exact h2
end

/-- {} to have tuples as keys; to have ints or texts -/
def dDictN (m : Bool := false) : DE := fun _ M => some ((OR.new (.dict [(.none, .none)])).out m M)
def dDictK (m : Bool := false) : DE := fun _ M => some ((OR.new (.dict [])).out m M)
theorem pd_dictN {X : Cx} {pos : Pos} {m : Bool} : PD X (.Dict [] [] pos) (dDictN m) := PE.weak pe_dnewN fun σ H Q ⟨F, ι, Γ, M, s, M', w, e, k⟩ => by
  intro c p hP hw hp
  obtain ⟨P, w', K, mg, F0⟩ := c
  simp only at hP hw
  subst hP hw
  have K : AftO ((ctx X).at F) ι H M m (.new (.dict [(.none, .none)])) Q := fun v4 ι4 H4 x4 r4 i4 => by
    have e := Option.some.inj e
    simp only [e] at r4 i4
    exact k v4 ι4 H4 x4 r4 i4
  exact K.newD w.rep hp fun ι' x => .dN (xs := []) upd_same .nil
theorem pd_dictK {X : Cx} {pos : Pos} {m : Bool} : PD X (.Dict [] [] pos) (dDictK m) := PE.weak pe_dnewK fun σ H Q ⟨F, ι, Γ, M, s, M', w, e, k⟩ => by
  intro p hp
  have K : AftO ((ctx X).at F) ι H M m (.new (.dict [])) Q := fun v4 ι4 H4 x4 r4 i4 => by
    have e := Option.some.inj e
    simp only [e] at r4 i4
    exact k v4 ι4 H4 x4 r4 i4
  exact K.newD w.rep hp fun ι' x => .dK (xs := []) upd_same .nil

def oSet : Cell → D → SV → Option Cell
  | .fl (.list xs), .int k, .dat v => (ixN xs.length k).map fun j => .fl (.list (xs.set j v))
  | .fl (.list xs), .int k, .ptr n => (ixN xs.length k).map fun j => .ls ((xs.map .dat).set j (.ptr n))
  | .ls xs, .int k, s => (ixN xs.length k).map fun j => .ls (xs.set j s)
  | .fl (.dict kvs), k, .dat v => if isN kvs then (if keyOk k = true ∧ kvs.tail.length < LIM then some (.fl (.dict ((.none, .none) :: dPut kvs.tail k v))) else none)
    else if (keyK k).isSome = true ∧ kvs.length < LIM then some (.fl (.dict (dPut kvs k v))) else none
  | .fl (.dict []), k, .ptr n => (keyK k).map fun ky => .dc [(ky, .ptr n)]
  | .dc kvs, k, s => (keyK k).bind fun ky => if kvs.length < LIM then some (.dc (tPut kvs ky s)) else none
  | _, _, _ => none
def sSub (fv fo fi : DE) : DS := fun Γ M => (fv Γ M).bind fun pv => (fo Γ pv.2).bind fun po => (fi Γ po.2).bind fun pi => match po.1, pi.1 with
  | .ptr n, .dat i => (pi.2[n]?).bind fun d => (oSet d i pv.1).map fun d' => (.nx, Γ, pi.2.set n d')
  | _, _ => none
def rSetAll (c : Ct) : TSet := fun o i v H Q => rSetL o i v H Q ∨ rSetN c o i v H Q ∨ rSetD o i v H Q
theorem set_all {X : Cx} {k : Nat} (hr : Room k X.A) : PSet X (rSetAll (ctx X)) := by
  intro pins s σ H o i v ov iv u Q I ro ri rv h
  rcases h with h | h | h
  · exact set_list pins s σ H o i v ov iv u Q I ro ri rv h
  · exact set_dn hr pins s σ H o i v ov iv u Q I ro ri rv h
  · exact set_dict (by have := hr.units; omega) pins s σ H o i v ov iv u Q I ro ri rv h
theorem set_ok {c : Ct} {F ι : List Addr} {H : Hp} {M : Sto} {n : Nat} {a : Addr} {d d' : Cell} {i : D} {v : SV} {xi xv : V} {Q : Hp → Prop} (r : Rep (c.at F) ι H M) (ha : ι[n]? = some a) (hd : M[n]? = some d) (hi : IsD (c.at F) ι H xi i) (hv : IsS (c.at F) ι H xv v) (e : oSet d i v = some d')
    (q : ∀ H', Ext ι H ι H' → Rep (c.at F) ι H' (M.set n d') → Q H') : rSetAll c (.ref a) xi xv H Q := by
  have ow := r.at_ n a d ha hd
  unfold oSet at e
  split at e
  · obtain ⟨j, e1, e⟩ := Option.map_eq_some_iff.mp e
    cases e
    cases hi
    cases ow with
    | fl ow =>
    cases ow with
    | @lst xs _ hp t =>
      cases hv with
      | dat hv =>
      obtain ⟨x1, r1⟩ := r.putL ha (t.set hv j)
      exact .inl ⟨a, xs, _, j, rfl, rfl, hp, by rw [t.length]; exact e1, q _ x1 r1⟩
  · obtain ⟨j, e1, e⟩ := Option.map_eq_some_iff.mp e
    cases e
    cases hi
    cases ow with
    | fl ow =>
    cases ow with
    | @lst xs _ hp t =>
      obtain ⟨x1, r1⟩ := r.putS ha (t.ss.set hv j)
      exact .inl ⟨a, xs, _, j, rfl, rfl, hp, by rw [t.length]; exact e1, q _ x1 r1⟩
  · obtain ⟨j, e1, e⟩ := Option.map_eq_some_iff.mp e
    cases e
    cases hi
    cases ow with
    | @ls xs _ hp t =>
      obtain ⟨x1, r1⟩ := r.putS ha (t.set hv j)
      exact .inl ⟨a, xs, _, j, rfl, rfl, hp, by rw [t.length]; exact e1, q _ x1 r1⟩
  · rename_i kvs v0
    cases hv with
    | dat hv =>
    cases ow with
    | fl ow =>
    cases hn : isN kvs with
    | true =>
      rw [if_pos hn] at e
      obtain ⟨kr, rfl⟩ := isN_cons hn
      split at e
      case isFalse => cases e
      rename_i ok
      cases e
      obtain ⟨b, rfl⟩ := key_ref ok.1 hi
      obtain ⟨a', ea, xs, hx, t⟩ := (Rdb.own ow).dn
      cases ea
      refine .inr (.inl ⟨F, ι, a, b, _, _, _, xs, rfl, rfl, hx, t, hi, ok.1, lim_lt (Nat.le_of_lt ok.2), hv, fun xs' t' => ?_⟩)
      exact q _ (Ext.write ha) (r.write ha (.fl (.dN upd_same (t'.mono (Ext.write ha)))))
    | false =>
      rw [if_neg (by rw [hn]; exact Bool.false_ne_true)] at e
      split at e
      case isFalse => cases e
      rename_i ok
      cases e
      cases hk : keyK i with
      | none => rw [hk] at ok; cases ok.1
      | some ky =>
        have := keyK_some hk
        subst this
        cases keyK_V hi
        obtain ⟨a', xs, ea, hx, t⟩ := (Rdb.own ow).dk hn
        cases ea
        refine .inr (.inr ⟨a, _, rfl, DPut.k hx (by rw [t.len]; exact lim_lt (Nat.le_of_lt ok.2)), q _ (Ext.write ha) (r.write ha (.fl (.dK upd_same ((t.put hv).mono (Ext.write ha)))))⟩)
  · obtain ⟨ky, hk, e⟩ := Option.map_eq_some_iff.mp e
    cases e
    have := keyK_some hk
    subst this
    cases keyK_V hi
    cases ow with
    | fl ow =>
    obtain ⟨a', xs, ea, hx, t⟩ := (Rdb.own ow).dk rfl
    cases ea
    cases t
    exact .inr (.inr ⟨a, _, rfl, DPut.k hx (by show 0 < sizeLine; decide), q _ (Ext.write ha) (r.write ha (.dc upd_same (.cons (hv.mono (Ext.write ha)) .nil)))⟩)
  · obtain ⟨ky, hk, e⟩ := Option.bind_eq_some_iff.mp e
    split at e
    case isFalse => cases e
    rename_i hl
    cases e
    have := keyK_some hk
    subst this
    cases keyK_V hi
    cases ow with
    | @dc xs _ hx t =>
    exact .inr (.inr ⟨a, _, rfl, DPut.k hx (by rw [t.length]; exact lim_lt (Nat.le_of_lt hl)), q _ (Ext.write ha) (r.write ha (.dc upd_same ((t.put hv).mono (Ext.write ha))))⟩)
  · cases e
section
variable {W : WX} {X : Cx} {o i e : Expr} {fo fi fe : DE} {pos tpos : Pos}
theorem pds_sub {k : Nat} (hr : Room k X.A) (hv : PD X e fe) (ho : PD X o fo) (hi : PD X i fi)
    (ha : ∀ v, assign (.Subscript o i tpos) X.env v = (do
      let ov ← holding [v] (eval o X.env)
      let iv ← holding [v, ov] (eval i X.env)
      standAt tpos
      holding [v, ov, iv] (setItem ov iv v)
      release [v, ov, iv] []) := by intro _; rfl)
    (hs : swapsWithSole [.Subscript o i tpos] e pos.line X.env = pure false := by rfl) (hw : swappedStores [.Subscript o i tpos] e X.env = pure none := by rfl)
    (h1 : (assignEach [.Subscript o i tpos] X.env).map (·.2) = [assign (.Subscript o i tpos) X.env] := by rfl) : PDS X W (.Assign [.Subscript o i tpos] e pos) (sSub fe fo fi) :=
  PS.weak (ps_asg hv (pg_sub ho hi (set_all hr) ha) hs hw h1) fun E σ H ⟨F, ι, Γ, M, fl, Γ', M', w, e, k⟩ => by
    obtain ⟨⟨sv, M1⟩, e1, e⟩ := Option.bind_eq_some_iff.mp e
    obtain ⟨⟨so, M2⟩, e2, e⟩ := Option.bind_eq_some_iff.mp e
    obtain ⟨⟨si, M3⟩, e3, e⟩ := Option.bind_eq_some_iff.mp e
    refine ⟨F, ι, Γ, M, sv, M1, w, e1, fun v ι1 H1 x1 r1 i1 => ?_⟩
    refine ⟨F, ι1, Γ, M1, so, M2, w.next x1 r1, e2, fun u ι2 H2 x2 r2 i2 => ?_⟩
    refine ⟨F, ι2, Γ, M2, si, M3, (w.next x1 r1).next x2 r2, e3, fun y ι3 H3 x3 r3 i3 => ?_⟩
    simp only at e
    split at e
    case h_2 => cases e
    obtain ⟨d, e4, e⟩ := Option.bind_eq_some_iff.mp e
    obtain ⟨d', e5, e⟩ := Option.map_eq_some_iff.mp e
    cases e
    cases i2 with
    | @ptr a _ ha =>
      cases i3 with
      | dat i3 =>
        refine set_ok (c := ctx X) r3 (x3.at ha) e4 i3 ((i1.mono x2).mono x3) e5 fun H4 x4 r4 => ?_
        exact k ι3 σ H4 (x1.trans (x2.trans (x3.trans x4))) ((w.next x1 r1).next (x2.trans (x3.trans x4)) r4)
end

def rGetAll (c : Ct) : V → V → Hp → VK → Prop := fun x y H Q => rIxL c.K x y H Q ∨ rIxN c x y H Q ∨ rIxK x y H Q
theorem get_all {X : Cx} {k : Nat} (hr : Room k X.A) : PGet X (rGetAll (ctx X)) := by
  intro pins s σ H o i ov iv Q I ro ri h
  rcases h with h | h | h
  · obtain ⟨p, xs, i', z, rfl, rfl, hq, he, q⟩ := h
    cases ro
    obtain ⟨t, rfl⟩ := ri
    obtain ⟨its, r, pl, hz⟩ := I.list hq
    obtain ⟨j, h1, h2, h3, h4, h5⟩ := atI_get he
    obtain ⟨w, ew, rw'⟩ := r.get h2
    have hl := r.length
    have hn := line63
    have fin : EP X pins σ Q w s := ⟨z, H, I, rw', q⟩
    by_cases h0 : 0 ≤ i'
    · have hj : i'.toNat = j := by
        rw [seqIndex_of h0 h5] at h1
        exact Option.some.inj h1
      exact wpAny_getItem_list pl.isList h0 (by omega) (by rw [hj]; simpa using ew) fin
    · have hj : (i' + (its.toArray.size : Int)).toNat = j := by
        rw [seqIndex_neg (by omega) h4] at h1
        rw [List.size_toArray, ← hl]
        exact Option.some.inj h1
      exact wpAny_getItem_list_neg (Q := fun r s' => EP X pins σ Q r s') pl.isList (by omega) (by rw [List.size_toArray] <;> omega) (by omega) (by rw [hj]; simpa using ew) fin
  · obtain ⟨F, ι, a, q, kd, d, kvs, rfl, rfl, hd, hk, ok, e, hq⟩ := h
    cases ro
    cases ri
    obtain ⟨w', ht, hg⟩ := getItem_any (Q := EP X pins σ Q) hr I hd hk ok e fun v u s' I' rv hv => ⟨v, H, I', rv, hq v hv⟩
    exact thn hg fun r s' h => h.2
  · obtain ⟨a, ky, xs, v', rfl, rfl, e, l, hq⟩ := h
    cases ro
    obtain ⟨w', ht, hg⟩ := getItem_k (Q := EP X pins σ Q) hr I e ri l fun u s' I' rv => ⟨v', H, I', rv, hq⟩
    exact thn hg fun r s' h => h.2
/-- o[i] op= e, the item a datum -/
def sAugSub (g : D → D → Option OR) (fo fi fe : DE) : DS := fun Γ M => (fo Γ M).bind fun po => (fi Γ po.2).bind fun pi => match po.1, pi.1 with
  | .ptr n, .dat i => (match ixS (.ptr n) (.dat i) pi.2 with
    | some (.dat x) => (fe Γ pi.2).bind fun pe => (match pe.1 with
      | .dat y => (match g x y with
        | some (.dat z) => (pe.2[n]?).bind fun d2 => (oSet d2 i (.dat z)).map fun d' => (.nx, Γ, pe.2.set n d')
        | _ => none)
      | _ => none)
    | _ => none)
  | _, _ => none
theorem ip_all {X : Cx} {op : Operator} {r : R2} (h : OpR X (inplaceOp op) r) : PIp X op r := fun pins s σ H x y v u Q I rx ry q => h pins s σ H x y v u Q I rx ry q
theorem getAll_of {c : Ct} {F ι : List Addr} {H : Hp} {M : Sto} {a : Addr} {n : Nat} {y : V} {i x : D} {Q : VK} (rp : Rep (c.at F) ι H M) (ha : ι[n]? = some a) (i2 : IsD (c.at F) ι H y i) (e : ixS (.ptr n) (.dat i) M = some (.dat x)) (q : ∀ v, IsD (c.at F) ι H v x → Q v H) : rGetAll c (.ref a) y H Q := by
  unfold ixS at e
  simp only at e
  have fl : ∀ d, OwnD (c.at F) ι H a d → ixD d i = some (.dat x) → rGetAll c (.ref a) y H Q := fun d ow hx => by
    obtain ⟨x', h1, h2⟩ := ixD_some hx
    cases h2
    unfold oIx at h1
    split at h1
    · obtain ⟨t, e10, e11⟩ := Option.map_eq_some_iff.mp h1
      cases e11
      cases i2
      cases ow with
      | @lst xs _ hp t =>
        obtain ⟨v, e', hv⟩ := atI_isD t e10
        exact .inl ⟨a, xs, _, v, rfl, rfl, .of hp, e', q v hv⟩
    · cases ow
    · cases ow
    · rename_i kvs
      split at h1
      case isFalse => cases h1
      rename_i ok
      obtain ⟨t, e10, e11⟩ := Option.map_eq_some_iff.mp h1
      cases e11
      cases hn : isN kvs with
      | true =>
        obtain ⟨r, rfl⟩ := isN_cons hn
        obtain ⟨q', rfl⟩ := key_ref (dKey_n ok) i2
        obtain ⟨a', ea, hd⟩ := (Rdb.own ow).dn
        cases ea
        exact .inr (.inl ⟨F, ι, a, q', _, _, _, rfl, rfl, hd, i2, dKey_n ok, e10, q⟩)
      | false =>
        obtain ⟨ky, rfl⟩ := dKey_k hn ok
        rw [dRest_k hn] at e10
        obtain ⟨a', xs, ea, hx, t⟩ := (Rdb.own ow).dk hn
        cases ea
        cases keyK_V i2
        obtain ⟨v, g1, g2⟩ := (IsKs.look t).2.1 _ e10
        exact .inr (.inr ⟨a, ky, xs, v, rfl, rfl, hx, g1, q v g2⟩)
    · cases h1
  split at e
  · rename_i d hm
    cases rp.at_ _ _ _ ha hm with
    | fl h => exact fl _ h e
  · rename_i ss hm
    cases rp.at_ _ _ _ ha hm with
    | ls h t =>
      split at e
      · cases i2
        obtain ⟨v, e', hv⟩ := atI_isS t e
        cases hv with
        | dat hv => exact .inl ⟨a, _, _, v, rfl, rfl, .of h, e', q v hv⟩
      · cases e
  · rename_i kvs hm
    cases rp.at_ _ _ _ ha hm with
    | dc h t =>
      obtain ⟨ky, h1, h2⟩ := Option.bind_eq_some_iff.mp e
      have := keyK_some h1
      subst this
      cases keyK_V i2
      obtain ⟨v, e', hv⟩ := (IsTs.look t).2 _ h2
      cases hv with
      | dat hv => exact .inr (.inr ⟨a, ky, _, v, rfl, rfl, h, e', q v hv⟩)
  · cases e
section
variable {W : WX} {X : Cx} {o i e : Expr} {fo fi fe : DE} {pos tpos : Pos}
theorem pds_augSub {k : Nat} {op : Operator} {r : TIp} {g : D → D → Option OR} (hr : Room k X.A) (hp : PIp X op r) (hg : R2D (ctx X) r g) (ho : PD X o fo) (hi : PD X i fi) (he : PD X e fe)
    (ha : ∀ ov iv new, augStore i ov iv new = (do holding [new, ov, iv] (setItem ov iv new); release [new, ov, iv] []; pure .next) := by intros; rfl) : PDS X W (.AugAssign (.Subscript o i tpos) op e pos) (sAugSub g fo fi fe) :=
  PS.weak (ps_augS ho hi (get_all hr) he hp (set_all hr) ha) fun E σ H ⟨F, ι, Γ, M, fl, Γ', M', w, e, k⟩ => by
    obtain ⟨⟨so, M2⟩, e2, e⟩ := Option.bind_eq_some_iff.mp e
    obtain ⟨⟨si, M3⟩, e3, e⟩ := Option.bind_eq_some_iff.mp e
    refine ⟨F, ι, Γ, M, so, M2, w, e2, fun u ι2 H2 x2 r2 i2 => ?_⟩
    refine ⟨F, ι2, Γ, M2, si, M3, w.next x2 r2, e3, fun y ι3 H3 x3 r3 i3 => ?_⟩
    simp only at e
    split at e
    case h_2 => cases e
    rename_i n di hq
    split at e
    case h_2 => cases e
    rename_i dx e5
    obtain ⟨⟨se, M4⟩, e6, e⟩ := Option.bind_eq_some_iff.mp e
    simp only at e
    split at e
    case h_2 => cases e
    rename_i dy
    split at e
    case h_2 => cases e
    rename_i dz e7
    obtain ⟨d2, e8, e⟩ := Option.bind_eq_some_iff.mp e
    obtain ⟨d', e9, e⟩ := Option.map_eq_some_iff.mp e
    cases e
    cases i2 with
    | @ptr a n ha =>
      cases i3 with
      | dat i3 =>
        have ha3 := x3.at ha
        refine getAll_of (c := ctx X) r3 ha3 i3 e5 fun v hv => ?_
        refine ⟨F, ι3, Γ, M3, _, M4, (w.next x2 r2).next x3 r3, e6, fun u4 ι4 H4 x4 r4 i4 => ?_⟩
        cases i4 with
        | dat i4 =>
          refine hg F ι4 H4 M4 false v u4 dx dy _ _ r4 (.ofD (hv.mono x4)) (.ofD i4) e7 fun v5 ι5 H5 x5 r5 i5 => ?_
          refine set_ok (c := ctx X) r5 (x5.at (x4.at ha3)) e8 ((i3.mono x4).mono x5) i5 e9 fun H6 x6 r6 => ?_
          exact k ι5 σ H6 (x2.trans (x3.trans (x4.trans (x5.trans x6)))) (((w.next x2 r2)).next (x3.trans (x4.trans (x5.trans x6))) r6)
def sAug (g : D → D → Option OR) (i : Nat) (fe : DE) : DS := fun Γ M => match Γ[i]? with
  | some (some s) => (fe Γ M).bind fun p => (val s p.2).bind fun d => (val p.1 p.2).bind fun e => (g d e).map fun o => (.nx, Γ.set i (some (o.out false p.2).1), (o.out false p.2).2)
  | _ => none
theorem pds_aug {op : Operator} {r : TIp} {g : D → D → Option OR} (n : Nat) {x : Str} {pos' : Pos} (hN : X.N.Nodup) (hp : PIp X op r) (hg : R2D (ctx X) r g) (he : PD X e fe) (hi : X.N[n]? = some x := by rfl) (hx : Loc X.env.scope x := by first | exact .inl rfl | exact .inr rfl) (hf : X.fn x = true ∨ X.env.scope.names.lookup x = some .local := by first | exact .inl rfl | exact .inr rfl | assumption) :
    PDS X W (.AugAssign (.Name x pos') op e pos) (sAug g n fe) :=
  PS.weak (ps_aug hN hi hx he hp hf) fun E σ H ⟨F, ι, Γ, M, fl, Γ', M', w, e, k⟩ => by
    unfold sAug at e
    split at e
    case h_2 => cases e
    rename_i s hs
    obtain ⟨⟨s2, M2⟩, e2, e⟩ := Option.bind_eq_some_iff.mp e
    obtain ⟨d, e3, e⟩ := Option.bind_eq_some_iff.mp e
    obtain ⟨d', e4, e⟩ := Option.bind_eq_some_iff.mp e
    obtain ⟨o, e5, e⟩ := Option.map_eq_some_iff.mp e
    cases e
    obtain ⟨v, h1, h2⟩ := w.at_ _ _ hs
    refine ⟨v, h1, F, ι, Γ, M, s2, M2, w, e2, fun u ι2 H2 x2 r2 i2 => ?_⟩
    refine hg F ι2 H2 M2 false v u d d' o _ r2 (rdb_of r2 (h2.mono x2) e3) (rdb_of r2 i2 e4) e5 fun v5 ι5 H5 x5 r5 i5 => ?_
    exact k ι5 _ H5 (x2.trans x5) ((w.next (x2.trans x5) r5).set i5 n)
def oIAdd : D → D → Option OR
  | .int i, .int j => some (.dat (.int (i + j)))
  | .str x, .str y => if x.length + y.length ≤ LIM then some (.dat (.str (x ++ y))) else none
  | _, _ => none
def rIAdd : R2 := fun x y H Q => rI0 (fun i j => .int (i + j)) x y H Q ∨ (∃ i j, x = .str i ∧ y = .str j ∧ i.length + j.length ≤ sizeLine ∧ Q (.str (i ++ j)) H)
theorem ip_iadd : PIp X .Add rIAdd := ip_all (iop_add.or iop_add_str)
theorem r2_iadd {c : Ct} : R2D c rIAdd oIAdd := fun F ι H M m x y dx dy o Q rp rx ry e k => by
  unfold oIAdd at e
  split at e
  · cases e
    cases rx.int
    cases ry.int
    exact .inl ⟨_, _, rfl, rfl, k.dat rp (.int _)⟩
  · split at e
    · rename_i hl
      cases e
      cases rx.str
      cases ry.str
      exact .inr ⟨_, _, rfl, rfl, lim_le hl, k.dat rp (.str _)⟩
    · cases e
  · cases e
theorem ip_isub : PIp X .Sub (rI0 fun i j => .int (i - j)) := ip_all iop_sub
theorem r2_isub {c : Ct} : R2D c (rI0 fun i j => .int (i - j)) oSub := r2_I0
end

def tyName : D → String
  | .none => "NoneType"
  | .bool _ => "bool"
  | .int _ => "int"
  | .str _ => "str"
  | .list _ => "list"
  | .tuple _ => "tuple"
  | .dict _ => "dict"
def isi : String → D → Bool
  | "int", .int _ => true
  | "int", .bool _ => true
  | "bool", .bool _ => true
  | "str", .str _ => true
  | "tuple", .tuple _ => true
  | "list", .list _ => true
  | "dict", .dict _ => true
  | _, _ => false
def oIsi (T : String) : D → Option OR
  | .dict _ => none
  | d => some (.dat (.bool (isi T d)))
theorem tyX_of {c : Ct} {ι : List Addr} {H : Hp} {v : V} {d : D} (R : Rdb c ι H v d) (hd : ∀ k, d ≠ .dict k) : TyX c.K H v (.type (tyName d)) := by
  cases d with
  | none => cases R.non; exact .base .non
  | bool b => cases R.bl; exact .base (.bl b)
  | int i => cases R.int; exact .base (.int i)
  | str x => cases R.str; exact .base (.str x)
  | list ds => obtain ⟨a, xs, rfl, hp, _⟩ := R.lst; exact .base (.lst hp)
  | tuple ds =>
    obtain ⟨a, xs, rfl, hp, _⟩ := R.tup
    rcases hp with (hp | ⟨o, hp⟩) | ⟨o, its, n, h1, h2, _⟩
    · exact .base (.tup hp)
    · exact .fTuple hp
    · exact .kTuple h1 h2
  | dict k => exact absurd rfl (hd k)
section
variable {X : Cx} {e : Expr} {fe : DE} {p p2 pos : Pos}
theorem pd_isi (T : String) {x : Str} (hT : ∀ d, kitB (tyName d) T = some (isi T d)) (hg : Gl X "isinstance") (hm : X.mg "isinstance" = none) (hg2 : Gl X x) (hm2 : X.mg x = none) (hv : bootBuiltins x = some (.type T)) (he : PD X e fe) (hn : x ≠ "__name__" := by decide) (hd : (x == ("__debug__" : Str)) = false := by decide)
    (hs : starEach [e, .Name x p2] X.env = (false, eval e X.env) :: starEach [.Name x p2] X.env := by rfl) (hs2 : starEach [.Name x p2] X.env = (false, eval (.Name x p2) X.env) :: starEach [] X.env := by rfl) (hpl : (backTo pos (starEach [.Name x p2] X.env)).any (·.1) = false := by rfl) :
    PD X (.Call (.Name "isinstance" p) [e, .Name x p2] [] pos) (dUn (oIsi T) fe) :=
  PE.weak (pe_callB call_isi hg hm (by decide +kernel) (pa_cons he (pa_cons (pe_bltn (v := .ty T) hg2 hm2 hv rfl hn hd) pa_nil hs2) hs) (he := hs) (hpl := hpl)) fun σ H Q ⟨F, ι, Γ, M, s, M', w, e, k⟩ => by
    obtain ⟨⟨sa, M1⟩, e1, e⟩ := Option.bind_eq_some_iff.mp e
    obtain ⟨da, e3, e⟩ := Option.bind_eq_some_iff.mp e
    obtain ⟨o, e5, e⟩ := Option.map_eq_some_iff.mp e
    refine ⟨F, ι, Γ, M, sa, M1, w, e1, fun v ι1 H1 x1 r1 i1 => ?_⟩
    have R := rdb_of r1 i1 e3
    unfold oIsi at e5
    split at e5
    · cases e5
    · rename_i hnd
      cases e5
      cases e
      exact ⟨v, .ty T, _, _, _, rfl, .ty T, tyX_of (c := (ctx X).at F) R hnd, kit_ty (hT da), k _ ι1 H1 x1 r1 (.dat (.bl _))⟩
theorem kit_by {T : String} (h0 : kitB "NoneType" T = some (isi T .none)) (h1 : kitB "bool" T = some (isi T (.bool true))) (h2 : kitB "int" T = some (isi T (.int 0))) (h3 : kitB "str" T = some (isi T (.str "")))
    (h4 : kitB "list" T = some (isi T (.list []))) (h5 : kitB "tuple" T = some (isi T (.tuple []))) (h6 : kitB "dict" T = some (isi T (.dict []))) : ∀ d, kitB (tyName d) T = some (isi T d) := fun d => by
  cases d <;> simp only [tyName, h0, h1, h2, h3, h4, h5, h6] <;> (unfold isi; split <;> first | rfl | contradiction | (split <;> first | rfl | contradiction | simp_all))
theorem kit_tuple : ∀ d, kitB (tyName d) "tuple" = some (isi "tuple" d) := kit_by (by decide +kernel) (by decide +kernel) (by decide +kernel) (by decide +kernel) (by decide +kernel) (by decide +kernel) (by decide +kernel)
theorem kit_int : ∀ d, kitB (tyName d) "int" = some (isi "int" d) := kit_by (by decide +kernel) (by decide +kernel) (by decide +kernel) (by decide +kernel) (by decide +kernel) (by decide +kernel) (by decide +kernel)
theorem kit_bool : ∀ d, kitB (tyName d) "bool" = some (isi "bool" d) := kit_by (by decide +kernel) (by decide +kernel) (by decide +kernel) (by decide +kernel) (by decide +kernel) (by decide +kernel) (by decide +kernel)
theorem kit_str : ∀ d, kitB (tyName d) "str" = some (isi "str" d) := kit_by (by decide +kernel) (by decide +kernel) (by decide +kernel) (by decide +kernel) (by decide +kernel) (by decide +kernel) (by decide +kernel)
theorem kit_list : ∀ d, kitB (tyName d) "list" = some (isi "list" d) := kit_by (by decide +kernel) (by decide +kernel) (by decide +kernel) (by decide +kernel) (by decide +kernel) (by decide +kernel) (by decide +kernel)
end
end EL
namespace EL
open PySem PySem.Spec PyProof.Rows L2

def sortHd : D → Bool
  | .tuple (_ :: _) => true
  | _ => false
def sortHd2 : D → Bool
  | .none => false
  | .tuple _ => false
  | _ => true
def sortOk (ds : List D) : Bool := decide (∀ d ∈ ds, ∀ e ∈ ds, PySem.W.alike d e = true) && (ds.all sortHd || ds.all sortHd2) && ds.all (fun d => d.plain && decide (d.depth ≤ 60)) && decide (ds.length ≤ LIM)
def srt (ds : List D) : List D := ds.mergeSort (PySem.W.dataLe false id)
def seqOf : D → Option (List D)
  | .list ds => some ds
  | .dict ((.none, .none) :: kvs) => some (kvs.map (·.1))
  | .dict kvs => some (kvs.map (·.1))
  | _ => none
theorem sortOk_d {A : Around} {ds : List D} (hu : A.units + 64 < cLine) (h : sortOk ds = true) : PySem.W.AllAlike (ds.map id) ∧ PySem.W.Sortable (ds.map id) ∧ (∀ d ∈ ds, d.plain = true) ∧ ds.length ≤ LIM ∧ ∀ d ∈ ds, A.units + 2 + (id d).depth < cLine := by
  unfold sortOk at h
  simp only [Bool.and_eq_true, decide_eq_true_eq, Bool.or_eq_true, List.all_eq_true] at h
  obtain ⟨⟨⟨h1, h2⟩, h3⟩, h4⟩ := h
  rw [List.map_id]
  refine ⟨h1, ?_, fun d hd => (h3 d hd).1, h4, fun d hd => ?_⟩
  · rcases h2 with h2 | h2
    · refine .inl fun d hd => ?_
      have := h2 d hd
      unfold sortHd at this
      split at this
      · exact ⟨_, _, rfl⟩
      · cases this
    · refine .inr fun d hd => ?_
      have := h2 d hd
      cases d <;> simp_all [sortHd2]
  · have := (h3 d hd).2
    show A.units + 2 + d.depth < cLine
    omega
section
variable {X : Cx} {pins : List (Addr × Obj)} {σ : L2.St} {H : Hp} {s : Shared}
def RV (c : Ct) (ι : List Addr) (H : Hp) (v : Value) (d : D) : Prop := ∃ x : V, RelV x v ∧ IsD c ι H x d
theorem rv_each {c : Ct} {ι : List Addr} {H : Hp} : ∀ {xs : List V} {vs : List Value} {ds : List D}, Vals xs vs → IsDs c ι H xs ds → PySem.W.EachIs (RV c ι H) vs ds
  | _, _, _, .nil, .nil => .nil
  | _, _, _, .cons r rt, .cons h t => .cons ⟨_, r, h⟩ (rv_each rt t)
theorem each_rv {c : Ct} {ι : List Addr} {H : Hp} : ∀ {vs : List Value} {ds : List D}, PySem.W.EachIs (RV c ι H) vs ds → ∃ xs, Vals xs vs ∧ IsDs c ι H xs ds
  | _, _, .nil => ⟨[], .nil, .nil⟩
  | _, _, .cons ⟨x, r, h⟩ t => by
    obtain ⟨xs, r2, h2⟩ := each_rv t
    exact ⟨x :: xs, .cons r r2, .cons h h2⟩
theorem rv_reads {c : Ct} {ι : List Addr} (hK : c.K = X.K) (I : Inv X pins σ H s) {h' : Heap} (hk : ∀ b o, s.heap.get? b = some o → h'.get? b = some o) : ∀ {vs : List Value} {ds : List D}, (∀ d ∈ ds, d.plain = true) → PySem.W.EachIs (RV c ι H) vs ds → PySem.W.EachIs (fun v b => ∃ as, Reads h' v (id b) as) vs ds
  | _, _, _, .nil => .nil
  | _, _, hp, .cons ⟨x, r, h⟩ t => by
    obtain ⟨as, hr⟩ := Dp.reads I _ _ _ (hK ▸ h.dp _ _ (hp _ (List.mem_cons_self ..))) r
    exact .cons ⟨as, PyProof.Rows.Reads.keeps hk hr⟩ (rv_reads hK I hk (fun d hd => hp d (List.mem_cons_of_mem _ hd)) t)
theorem sort_core {ι : List Addr} {c : Ct} (hK : c.K = X.K) (hu : X.A.units + 64 < cLine) {u : Value} {ds : List D} (I : Inv X pins σ H s) (ok : sortOk ds = true)
    (hcol : ∀ R : List Value → Shared → Prop, (∀ (h' : Heap) (tk : Nat) (vs : List Value), (∀ b o, s.heap.get? b = some o → h'.get? b = some o) → PySem.W.EachIs (RV c ι H) vs ds → R vs { s with heap := h', toks := tk }) → wpAny (model X.prog X.w) X.A.in1 (collect u) R X.xe s)
    {Q : VK} (q : ∀ p ys, H p = none → IsDs c ι H ys (srt ds) → Q (.ref p) (upd H p (.lst ys))) : wpAny (model X.prog X.w) X.A (call (.builtin "sorted") [u]) (EP X pins σ Q) X.xe s := by
  obtain ⟨hal, hso, hpl, hL, hun⟩ := sortOk_d (A := X.A) hu ok
  refine Calls.call_function_entry PyProof.Rows.kind_sorted PyProof.Rows.plain_sorted PyProof.Rows.entry_sorted (PyProof.Rows.args_sorted1 _) ?_
  unfold Builtin.«sorted»
  refine wpAny_bind (m := checkCount "sorted" 1 1 _) (wpAny_pure ?_)
  refine wpAny_bind (hcol _ fun h' tk acc hk er => ?_)
  have hal2 : acc.length = ds.length := er.length
  have h16 : acc.length ≤ sizeLine := by rw [hal2]; exact lim_le hL
  have I1 : Inv X pins σ H { s with heap := h', toks := tk } := I.kept hk
  refine wpAny_bind (wpAny_newList ?_ h16)
  have hoL : (h'.push (seqObj "list" acc.toArray 0)).get? h'.objs.size = some (seqObj "list" acc.toArray 0) := Heap.get?_push_size _ rfl
  show wpAny _ _ _ _ _ { s with heap := h'.push (seqObj "list" acc.toArray 0), toks := tk }
  have hkeep : ∀ b o, s.heap.get? b = some o → (PySem.W.sortingHeap (h'.push (seqObj "list" acc.toArray 0)) h'.objs.size acc).get? b = some o := fun b o e => by
    have e1 := hk b o e
    have hb : b < h'.objs.size := Heap.lt_size e1
    exact PySem.W.sortingHeap_old (Nat.ne_of_lt hb) (Heap.get?_push_of_some _ e1)
  have er' := rv_reads hK I hkeep hpl er
  refine wpAny_bind (wpAny_holding (wpAny_call_entry PyProof.Rows.slot_list_sort ⟨_, hoL, rfl⟩ PyProof.Rows.entry_list_sort
    (PySem.W.list_sort_vals (κ := PySem.W.dataKind (PySem.W.sortingHeap (h'.push (seqObj "list" acc.toArray 0)) h'.objs.size acc) (ds.map id)) (s := { s with heap := h'.push (seqObj "list" acc.toArray 0), toks := tk }) hoL
      (PySem.W.SortsAt.data (s := { s with heap := PySem.W.sortingHeap (h'.push (seqObj "list" acc.toArray 0)) h'.objs.size acc, toks := tk }) (PySem.W.each_map (R := fun v d => ∃ as, Reads (PySem.W.sortingHeap (h'.push (seqObj "list" acc.toArray 0)) h'.objs.size acc) v d as) id er') hal hso (PySem.W.bound_map (A := X.A.in1.in1) hun)) h16 ⟨_, rfl, ?_⟩)
    (PyProof.Rows.args_list_sort _)))
  have eo := PySem.W.sortVals_data (R := RV c ι H) false er er' hal
  obtain ⟨ys, rv, hys⟩ := each_rv eo
  obtain ⟨e', he'⟩ := PyProof.Rows.sortedHeap_at (vs := acc) (out := (PySem.W.sortVals (PySem.W.dataKind (PySem.W.sortingHeap (h'.push (seqObj "list" acc.toArray 0)) h'.objs.size acc) (ds.map id)) false acc acc).toArray) hoL
  have hlen : ys.length ≤ sizeLine := by
    rw [hys.length]
    show (ds.mergeSort _).length ≤ _
    rw [List.length_mergeSort]
    exact lim_le hL
  refine wpAny_pure ⟨_, rfl, .ref h'.objs.size, upd H h'.objs.size (.lst ys), I1.laid (t' := tk) (fun b u e => ?_) (Nat.le_refl _)
    (show ObjOk X.prog X.w _ _ _ (.lst ys) from ⟨hlen, _, e', rv, he'⟩), rfl, q _ ys (I1.hok.fresh (Nat.le_refl _)) hys⟩
  have hb : b < h'.objs.size := Heap.lt_size e
  rw [PyProof.Rows.sortedHeap_old (Nat.ne_of_lt hb) (by rw [size_push']; exact Nat.lt_succ_of_lt hb)]
  exact Heap.get?_push_of_some _ e
def rSortA (c : Ct) : List V → Hp → VK → Prop := fun xs H Q => ∃ F ι v d ds, xs = [v] ∧ Rdb (c.at F) ι H v d ∧ seqOf d = some ds ∧ sortOk ds = true ∧ ∀ p ys, H p = none → IsDs (c.at F) ι H ys (srt ds) → Q (.ref p) (upd H p (.lst ys))
theorem isNs_keys {c : Ct} {ι : List Addr} {H : Hp} : ∀ {xs : List (NestedKey × Addr × Value)} {kvs : List (D × D)}, IsNs c ι H xs kvs → PySem.W.EachIs (RV c ι H) (xs.map fun x => Value.ref x.2.1) (kvs.map (·.1))
  | _, _, .nil => .nil
  | _, _, .cons (q := q) hk _ _ _ t => .cons ⟨V.ref q, rfl, hk⟩ (isNs_keys t)
theorem isKs_keys {c : Ct} {ι : List Addr} {H : Hp} : ∀ {xs : List (Key × V)} {kvs : List (D × D)}, IsKs c ι H xs kvs → IsDs c ι H (xs.map fun x => kV x.1) (kvs.map (·.1))
  | _, _, .nil => .nil
  | _, _, .cons (k := .inl i) _ t => .cons (.int i) (isKs_keys t)
  | _, _, .cons (k := .inr x) _ t => .cons (.str x) (isKs_keys t)
theorem seqOf_cases {d : D} {ds : List D} (h : seqOf d = some ds) : d = .list ds ∨ (∃ kvs, d = .dict ((.none, .none) :: kvs) ∧ ds = kvs.map (·.1)) ∨ ∃ kvs, d = .dict kvs ∧ isN kvs = false ∧ ds = kvs.map (·.1) := by
  unfold seqOf at h
  split at h
  · cases h; exact .inl rfl
  · cases h; exact .inr (.inl ⟨_, rfl, rfl⟩)
  · rename_i kvs hn
    cases h
    refine .inr (.inr ⟨_, rfl, ?_, rfl⟩)
    unfold isN
    split
    · exact absurd rfl (hn _)
    · rfl
  · cases h
theorem call_sortedA (hc : X.calm = true) (hu : X.A.units + 64 < cLine) : CallR X (.builtin "sorted") (rSortA (ctx X)) := by
  intro pins s σ H xs us Q I r h
  obtain ⟨F, ι, v, d, ds, rfl, R, hs, ok, q⟩ := h
  obtain ⟨u, rfl, rx⟩ := vals1 r
  refine sort_core (c := (ctx X).at F) (ι := ι) rfl hu I ok (fun R' hR => ?_) q
  rcases seqOf_cases hs with rfl | ⟨kvs, rfl, rfl⟩ | ⟨kvs, rfl, hn, rfl⟩
  · obtain ⟨a, xs, rfl, hp, t⟩ := R.lst
    cases rx
    obtain ⟨its, rv, p, hz⟩ := I.list (.of hp)
    refine PyProof.Rows.collect_list p.isList (hR _ _ _ (fun b o e => ?_) (rv_each rv t)) (by rw [← rv.length]; exact hz)
    exact Heap.get?_update_of_ne _ (fun q => by subst q; exact absurd (Heap.lt_size e) (Nat.lt_irrefl _)) (Heap.get?_push_of_some _ e)
  · obtain ⟨a, rfl, xs, ha, t⟩ := R.dn
    cases rx
    obtain ⟨⟨h1, h2, o, es, ep, h3, h4, h5, h6, h7⟩, _⟩ := (show ObjOk X.prog X.w H s.heap a (.ext (DN ((ctx X).at F) a xs)) from I.hok a _ ha)
    have l1 : es.size = xs.length := size_of_entries h6
    refine PySem.W.kdu_collect (kdl_raw h1 h4 h5) (I.ok.hd hc) h3 (by omega) fun h' tk acc hk it => ?_
    have ea : acc.toList = xs.map fun x => Value.ref x.2.1 := by
      have hl : acc.toList.length = xs.length := by rw [Array.length_toList, it.1]; exact l1
      apply List.ext_getElem?
      intro j
      rw [List.getElem?_map]
      cases hj : acc.toList[j]? with
      | none =>
        have h1 := List.getElem?_eq_none_iff.mp hj
        rw [List.getElem?_eq_none (by omega)]
        all_goals rfl
      | some v =>
        obtain ⟨en, hen, hv⟩ := it.2 j v (by rw [← Array.getElem?_toList]; exact hj)
        have qe := entry_at h6 j
        rw [hen] at qe
        cases hb : xs[j]? with
        | none =>
          rw [hb] at qe
          exact nomatch (show some en = none from qe)
        | some b =>
          rw [hb] at qe
          have e2 := Option.some.inj qe
          rw [hv, e2]
          all_goals rfl
    exact hR _ _ _ hk (by rw [ea]; exact isNs_keys t)
  · obtain ⟨a, xs, rfl, ha, t⟩ := R.dk hn
    cases rx
    obtain ⟨z, lo, vs, rk, hd⟩ := (show ObjOk X.prog X.w H s.heap a (.dK xs) from I.hok a _ ha)
    obtain ⟨ep, hat⟩ := hd.dictAt
    have hl : xs.length = vs.length := Paired.length rk
    refine PySem.W.kdu_collect (PySem.W.kdl_dict (knd := mixKind X.prog X.w) (kvs := vs) (ep := ep) lo) (I.ok.hd hc) hat (by rw [← hl]; exact z) fun h' tk acc hk hacc => ?_
    refine hR _ _ _ hk (rv_each (xs := xs.map fun x => kV x.1) ?_ (isKs_keys t))
    have el : acc.toList.length = acc.size := by simp
    refine vals_of_at (by rw [List.length_map, el, hacc.1, hl]) fun j x w h1 h2 => ?_
    obtain ⟨k, y, hky, hi⟩ := hacc.2 j w (by rw [← Array.getElem?_toList]; exact h2)
    have e1 : (xs.map (·.1))[j]? = some k := by
      rw [KV.keys rk, List.getElem?_map, hky] <;> rfl
    have e2 : (xs.map fun kv => kV kv.1)[j]? = some (kV k) := by
      have e3 : (xs.map fun kv => kV kv.1) = (xs.map (·.1)).map kV := by rw [List.map_map] <;> rfl
      rw [e3, List.getElem?_map, e1] <;> rfl
    rw [e2] at h1
    cases h1
    exact keyIs_rel hi
def bSorted : List D → Option OR
  | [d] => (seqOf d).bind fun ds => if sortOk ds then some (.new (.list (srt ds))) else none
  | _ => none
theorem pd_sorted {m : Bool} {k : Nat} {e : Expr} {fr : DA} {p pos : Pos} (hr : Room k X.A) (hc : X.calm = true) (hg : Gl X "sorted") (hm : X.mg "sorted" = none) (ha : PDA X [e] fr) (he : starEach [e] X.env = (false, eval e X.env) :: starEach [] X.env := by rfl) : PD X (.Call (.Name "sorted" p) [e] [] pos) (dCB bSorted fr m) :=
  pd_cb (id := "sorted") (fun F ι H M m xs ds o Q rp R e k => by
    unfold bSorted at e
    split at e
    · obtain ⟨ds, e1, e2⟩ := Option.bind_eq_some_iff.mp e
      split at e2
      case isFalse => cases e2
      cases e2
      obtain ⟨v, rfl, R0⟩ := R.one
      exact ⟨F, ι, v, _, _, rfl, R0, e1, by assumption, fun p ys hp t => k.newL rp t hp⟩
    · cases e) (call_sortedA hc (by have := hr.un; omega)) hg hm (by decide +kernel) ha (he := he) (hpl := rfl)
end

def itZ (f g : DIt) : DIt := fun M i => match f M i, g M i with
  | some (some (.dat a)), some (some (.dat b)) => some (some (.dat (.tuple [a, b])))
  | some none, some _ => some none
  | some (some _), some none => some none
  | _, _ => none
/-- what one side of a zip gives; true: a list, false: a tuple -/
def zSide (s : SV) (M : Sto) : Option ((DIt × Nat) × Bool) := match s with
  | .dat (.list ds) => some ((itD ds, ds.length), true)
  | .dat (.tuple ds) => some ((itD ds, ds.length), false)
  | .ptr n => match M[n]? with
    | some (.fl (.list ds)) => some ((itP n, ds.length), true)
    | some (.ls ss) => some ((itP n, ss.length), true)
    | _ => none
  | _ => none
def iZip (fr : DA) : DI := fun Γ M => (fr Γ M).bind fun p => match p.1 with
  | [a, b] => (zSide a p.2).bind fun x => (zSide b p.2).bind fun y => if x.2 = y.2 then some ((itZ x.1.1 y.1.1, min x.1.2 y.1.2), p.2) else none
  | _ => none
def SV2 (K : PySem.W.Frag) (b : Bool) (H : Hp) (a : Addr) (xs : List V) : Prop := if b then SqL K H a xs else SqT K H a xs
def LV (c : Ct) (F0 ι0 : List Addr) (H0 : Hp) (b : Bool) (a : Addr) (it : DIt) : Prop := ∀ F ι H M i o, (∀ a, a ∈ F → a ∈ F0 ∨ H0 a = none) → ExtF F ι0 H0 ι H → Rep (c.at F) ι H M → it M i = some o → ∃ xs, SV2 c.K b H a xs ∧ (o = none → xs.length ≤ i) ∧ ∀ d, o = some d → ∃ v, xs[i]? = some v ∧ IsS (c.at F) ι H v d
theorem zSide_ok {c : Ct} {F0 ι : List Addr} {H : Hp} {M : Sto} {s : SV} {x : (DIt × Nat) × Bool} {v : V} (r : Rep (c.at F0) ι H M) (i : IsS (c.at F0) ι H v s) (e : zSide s M = some x) : ∃ a, v = .ref a ∧ (∃ xs, SV2 c.K x.2 H a xs) ∧ LV c F0 ι H x.2 a x.1.1 := by
  unfold zSide at e
  split at e
  · cases e
    cases i with
    | dat i =>
      obtain ⟨a, xs, rfl, hp, t⟩ := (Rdb.ofD i).lst
      refine ⟨a, rfl, ⟨xs, .of hp⟩, fun F ι' H' M' j o g x' r' e' => ?_⟩
      cases e'
      obtain ⟨a', xs', ea, hp', t'⟩ := (Rdb.ofD ((i.grow (c := c) g).monoF (c := c.at F) x')).lst
      cases ea
      exact ⟨xs', .of hp', isDs_atS t'⟩
  · cases e
    cases i with
    | dat i =>
      obtain ⟨a, xs, rfl, hp, t, _⟩ := (Rdb.ofD i).tup
      refine ⟨a, rfl, ⟨xs, hp⟩, fun F ι' H' M' j o g x' r' e' => ?_⟩
      cases e'
      obtain ⟨a', xs', ea, hp', t', _⟩ := (Rdb.ofD ((i.grow (c := c) g).monoF (c := c.at F) x')).tup
      cases ea
      exact ⟨xs', hp', isDs_atS t'⟩
  · rename_i n
    have pp : ∀ a, ι[n]? = some a → LV c F0 ι H true a (itP n) := fun a ha F ι' H' M' j o g x' r' e' => by
      unfold itP at e'
      split at e'
      · rename_i hm'
        cases r'.at_ _ _ _ (x'.at ha) hm' with
        | fl ow =>
        cases ow with
        | lst hp' t' => cases e'; exact ⟨_, .of hp', isDs_atS t'⟩
      · rename_i hm'
        cases r'.at_ _ _ _ (x'.at ha) hm' with
        | ls hp' t' => cases e'; exact ⟨_, .of hp', isSs_at t'⟩
      · cases e'
    split at e
    · rename_i hm
      cases e
      cases i with
      | ptr ha =>
        cases r.at_ _ _ _ ha hm with
        | fl ow =>
        cases ow with
        | lst hp t => exact ⟨_, rfl, ⟨_, .of hp⟩, pp _ ha⟩
    · rename_i hm
      cases e
      cases i with
      | ptr ha =>
        cases r.at_ _ _ _ ha hm with
        | ls hp t => exact ⟨_, rfl, ⟨_, .of hp⟩, pp _ ha⟩
    · cases e
  · cases e
theorem itZ_cases {f g : DIt} {M : Sto} {i : Nat} {o : Option SV} (e : itZ f g M i = some o) : ∃ p q, f M i = some p ∧ g M i = some q ∧ ((o = none ∧ (p = none ∨ q = none)) ∨ ∃ a b, p = some (.dat a) ∧ q = some (.dat b) ∧ o = some (.dat (.tuple [a, b]))) := by
  unfold itZ at e
  split at e
  · cases e; exact ⟨_, _, by assumption, by assumption, .inr ⟨_, _, rfl, rfl, rfl⟩⟩
  · cases e; exact ⟨_, _, by assumption, by assumption, .inl ⟨rfl, .inl rfl⟩⟩
  · cases e; exact ⟨_, _, by assumption, by assumption, .inl ⟨rfl, .inr rfl⟩⟩
  · cases e
theorem jok_zip {c : Ct} {F0 ι0 : List Addr} {H0 : Hp} {a b : Addr} {f g : DIt} (h1 : LV c F0 ι0 H0 true a f) (h2 : LV c F0 ι0 H0 true b g) : JOk c F0 ι0 H0 (Itz c.K a b) (itZ f g) := fun F ι H M i gg x r => by
  refine ⟨fun e => ?_, fun d e => ?_⟩
  · obtain ⟨p, q, e1, e2, e3⟩ := itZ_cases e
    obtain ⟨xs, s1, t1, g1⟩ := h1 F ι H M i p gg x r e1
    obtain ⟨ys, s2, t2, g2⟩ := h2 F ι H M i q gg x r e2
    refine ⟨xs, ys, s1, s2, ?_⟩
    rcases e3 with ⟨_, e3 | e3⟩ | ⟨_, _, _, _, e3⟩
    · exact .inl (t1 e3)
    · exact .inr (t2 e3)
    · cases e3
  · obtain ⟨p, q, e1, e2, e3⟩ := itZ_cases e
    obtain ⟨xs, s1, t1, g1⟩ := h1 F ι H M i p gg x r e1
    obtain ⟨ys, s2, t2, g2⟩ := h2 F ι H M i q gg x r e2
    rcases e3 with ⟨e3, _⟩ | ⟨da, db, rfl, rfl, e3⟩
    · cases e3
    cases e3
    obtain ⟨v1, k1, w1⟩ := g1 _ rfl
    obtain ⟨v2, k2, w2⟩ := g2 _ rfl
    refine ⟨⟨xs, ys, v1, v2, s1, s2, k1, k2⟩, fun y H' ⟨T, y1, y2, q1, q2, q3, q4, q5⟩ => ?_⟩
    subst q1
    subst q3
    have z1 := q4 xs s1
    have z2 := q5 ys s2
    rw [k1] at z1
    rw [k2] at z2
    cases z1
    cases z2
    have x1 : Ext ι H ι (upd H T (.tup [v1, v2])) := .new q2
    cases w1 with
    | dat w1 =>
    cases w2 with
    | dat w2 =>
    exact ⟨x1, r.new q2, .dat (.tup (.inl ⟨upd_same, r.nin q2⟩) (.cons (w1.mono x1) (.cons (w2.mono x1) .nil)))⟩
theorem jok_zipT {c : Ct} {F0 ι0 : List Addr} {H0 : Hp} {a b : Addr} {f g : DIt} (h1 : LV c F0 ι0 H0 false a f) (h2 : LV c F0 ι0 H0 false b g) : JOk c F0 ι0 H0 (RZ.ItzT c.K a b) (itZ f g) := fun F ι H M i gg x r => by
  refine ⟨fun e => ?_, fun d e => ?_⟩
  · obtain ⟨p, q, e1, e2, e3⟩ := itZ_cases e
    obtain ⟨xs, s1, t1, g1⟩ := h1 F ι H M i p gg x r e1
    obtain ⟨ys, s2, t2, g2⟩ := h2 F ι H M i q gg x r e2
    refine ⟨xs, ys, s1, s2, ?_⟩
    rcases e3 with ⟨_, e3 | e3⟩ | ⟨_, _, _, _, e3⟩
    · exact .inl (t1 e3)
    · exact .inr (t2 e3)
    · cases e3
  · obtain ⟨p, q, e1, e2, e3⟩ := itZ_cases e
    obtain ⟨xs, s1, t1, g1⟩ := h1 F ι H M i p gg x r e1
    obtain ⟨ys, s2, t2, g2⟩ := h2 F ι H M i q gg x r e2
    rcases e3 with ⟨e3, _⟩ | ⟨da, db, rfl, rfl, e3⟩
    · cases e3
    cases e3
    obtain ⟨v1, k1, w1⟩ := g1 _ rfl
    obtain ⟨v2, k2, w2⟩ := g2 _ rfl
    refine ⟨⟨xs, ys, v1, v2, s1, s2, k1, k2⟩, fun y H' ⟨T, y1, y2, q1, q2, q3, q4, q5⟩ => ?_⟩
    subst q1
    subst q3
    have z1 := q4 xs s1
    have z2 := q5 ys s2
    rw [k1] at z1
    rw [k2] at z2
    cases z1
    cases z2
    have x1 : Ext ι H ι (upd H T (.tup [v1, v2])) := .new q2
    cases w1 with
    | dat w1 =>
    cases w2 with
    | dat w2 =>
    exact ⟨x1, r.new q2, .dat (.tup (.inl ⟨upd_same, r.nin q2⟩) (.cons (w1.mono x1) (.cons (w2.mono x1) .nil)))⟩
theorem pdi_zip {X : Cx} {e e2 : Expr} {fr : DA} {p pos tpos : Pos} {elts : List Expr} {kk : Nat} (hg : Gl X "zip") (hm : X.mg "zip" = none) (ha : PDA X [e, e2] fr)
    (hs : starEach [e, e2] X.env = (false, eval e X.env) :: starEach [e2] X.env := by rfl) (hpl : (backTo pos (starEach [e2] X.env)).any (·.1) = false := by rfl) :
    PDI X (.Tuple elts kk tpos) (.Call (.Name "zip" p) [e, e2] [] pos) (iZip fr) :=
  PI.weak (RZ.pi_zipA hg hm ha hs hpl) fun σ H R ⟨F, ι, Γ, M, it, M', w, e, k⟩ => by
    obtain ⟨⟨ss, M1⟩, e1, e⟩ := Option.bind_eq_some_iff.mp e
    refine ⟨F, ι, Γ, M, ss, M1, w, e1, fun vs ι1 H1 x1 r1 i1 => ?_⟩
    simp only at e
    split at e
    case h_2 => cases e
    obtain ⟨x, ex, e⟩ := Option.bind_eq_some_iff.mp e
    obtain ⟨y, ey, e⟩ := Option.bind_eq_some_iff.mp e
    split at e
    case isFalse => cases e
    rename_i hxy
    cases e
    cases i1 with
    | cons i1 t1 =>
      cases t1 with
      | cons i2 t2 =>
        cases t2
        obtain ⟨a, rfl, ⟨xs, hx⟩, lx⟩ := zSide_ok (c := ctx X) r1 i1 ex
        obtain ⟨b, rfl, ⟨ys, hy⟩, ly⟩ := zSide_ok (c := ctx X) r1 i2 ey
        refine ⟨a, b, xs, ys, rfl, ?_⟩
        rw [← hxy] at hy ly
        cases hb : x.2 with
        | true =>
          rw [hb] at hx hy lx ly
          exact .inl ⟨hx, hy, k _ ι1 H1 x1 r1 (jok_zip lx ly)⟩
        | false =>
          rw [hb] at hx hy lx ly
          exact .inr ⟨hx, hy, k _ ι1 H1 x1 r1 (jok_zipT lx ly)⟩

def itE (f : DIt) : DIt := fun M i => match f M i with
  | some (some (.dat a)) => some (some (.dat (.tuple [.int (i : Nat), a])))
  | some none => some none
  | _ => none
theorem jok_enum {c : Ct} {F0 ι0 : List Addr} {H0 : Hp} {a : Addr} {f : DIt} (h1 : LV c F0 ι0 H0 true a f) : JOk c F0 ι0 H0 (Ite c.K a) (itE f) := fun F ι H M i gg x r => by
  have key : ∀ o, itE f M i = some o → (o = none ∧ f M i = some none) ∨ ∃ d, f M i = some (some (.dat d)) ∧ o = some (.dat (.tuple [.int (i : Nat), d])) := fun o e => by
    unfold itE at e
    split at e
    · cases e; exact .inr ⟨_, by assumption, rfl⟩
    · cases e; exact .inl ⟨rfl, by assumption⟩
    · cases e
  refine ⟨fun e => ?_, fun d e => ?_⟩
  · rcases key _ e with ⟨_, e1⟩ | ⟨_, _, e1⟩
    · obtain ⟨xs, s1, t1, _⟩ := h1 F ι H M i _ gg x r e1
      exact ⟨xs, s1, t1 rfl⟩
    · cases e1
  · rcases key _ e with ⟨e1, _⟩ | ⟨d', e1, e2⟩
    · cases e1
    cases e2
    obtain ⟨xs, s1, _, g1⟩ := h1 F ι H M i _ gg x r e1
    obtain ⟨v1, k1, w1⟩ := g1 _ rfl
    refine ⟨⟨xs, v1, s1, k1⟩, fun y H' ⟨T, y1, q1, q2, q3, q4⟩ => ?_⟩
    subst q1
    subst q3
    have z1 := q4 xs s1
    rw [k1] at z1
    cases z1
    cases w1 with
    | dat w1 =>
    have x1 : Ext ι H ι (upd H T (.tup [.int (i : Nat), v1])) := .new q2
    exact ⟨x1, r.new q2, .dat (.tup (.inl ⟨upd_same, r.nin q2⟩) (.cons (.int _) (.cons (w1.mono x1) .nil)))⟩
def iEnm (fr : DA) : DI := fun Γ M => (fr Γ M).bind fun p => match p.1 with
  | [a] => (zSide a p.2).bind fun x => if x.2 = true then some ((itE x.1.1, x.1.2), p.2) else none
  | _ => none
theorem pdi_enum {X : Cx} {e : Expr} {fr : DA} {p pos tpos : Pos} {elts : List Expr} {kk : Nat} (hg : Gl X "enumerate") (hm : X.mg "enumerate" = none) (ha : PDA X [e] fr) (hs : starEach [e] X.env = [(false, eval e X.env)] := by rfl) :
    PDI X (.Tuple elts kk tpos) (.Call (.Name "enumerate" p) [e] [] pos) (iEnm fr) :=
  PI.weak (pi_enum hg hm ha hs) fun σ H R ⟨F, ι, Γ, M, it, M', w, e, k⟩ => by
    obtain ⟨⟨ss, M1⟩, e1, e⟩ := Option.bind_eq_some_iff.mp e
    refine ⟨F, ι, Γ, M, ss, M1, w, e1, fun vs ι1 H1 x1 r1 i1 => ?_⟩
    simp only at e
    split at e
    case h_2 => cases e
    obtain ⟨x, ex, e⟩ := Option.bind_eq_some_iff.mp e
    split at e
    case isFalse => cases e
    rename_i hx2
    cases e
    cases i1 with
    | cons i1 t1 =>
      cases t1
      obtain ⟨a, rfl, ⟨xs, hx⟩, lx⟩ := zSide_ok (c := ctx X) r1 i1 ex
      rw [hx2] at hx lx
      exact ⟨a, xs, rfl, hx, k _ ι1 H1 x1 r1 (jok_enum lx)⟩

def okIn (x : D) (ys : List D) : Bool := x.plain && PyData.plainAll ys && decide (min (PyData.depthAll ys) x.depth ≤ 60)
def inD (x : D) (ys : List D) : Bool := ys.any fun y => PyData.eqv y x
def oInB : D → D → Option Bool
  | x, .list ys => if okIn x ys then some (inD x ys) else none
  | x, .tuple ys => if okIn x ys then some (inD x ys) else none
  | x, .dict kvs => if dKey kvs x then some (dHas (dRest kvs) x) else none
  | .str x, .str y => if x.cps.size = 1 then some (decide (x.cps.getD 0 0 ∈ y.cps.toList)) else none
  | _, _ => none
def oIn : D → D → Option OR := fun x y => (oInB x y).map fun b => .dat (.bool b)
def oNotIn : D → D → Option OR := fun x y => (oInB x y).map fun b => .dat (.bool (!b))
def rInA (c : Ct) (neg : Bool) : R2 := fun x y H Q => (∃ d ds, Dp c.K H x d ∧ (Dp c.K H y (.list ds) ∨ Dp c.K H y (.tuple ds)) ∧ okIn d ds = true ∧ Q (.bl (if neg then !inD d ds else inD d ds)) H) ∨
  rInN c neg x y H Q ∨ rInK neg x y H Q ∨ (∃ (ch : Nat) (z : Str), x = .str ⟨#[ch]⟩ ∧ y = .str z ∧ Q (.bl (if neg then !decide (ch ∈ z.cps.toList) else decide (ch ∈ z.cps.toList))) H)
section
variable {X : Cx}
theorem okIn_d {A : Around} {d : D} {ds : List D} (hu : A.units + 64 < cLine) (h : okIn d ds = true) : d.plain = true ∧ PyData.plainAll ds = true ∧ A.units + 1 + min (PyData.depthAll ds) d.depth < cLine := by
  unfold okIn at h
  simp only [Bool.and_eq_true, decide_eq_true_eq] at h
  exact ⟨h.1.1, h.1.2, by omega⟩
theorem op_inA {k : Nat} (hr : Room k X.A) : OpR X (compareOp .In) (rInA (ctx X) false) := by
  intro pins s σ H x y v u Q I rx ry h
  rcases h with ⟨d, ds, hd, he, ok, q⟩ | h | h | h
  · obtain ⟨o1, o2, o3⟩ := okIn_d hr.units ok
    obtain ⟨as, r1⟩ := Dp.reads I d x v hd rx
    rcases he with he | he
    · obtain ⟨bs, r2⟩ := Dp.reads I (.list ds) y u he ry
      exact SeqAt.in_list_data r2 r1 o2 o1 o3 ⟨.bl _, H, I, rfl, q⟩
    · obtain ⟨bs, r2⟩ := Dp.reads I (.tuple ds) y u he ry
      exact SeqAt.in_tuple_data r2 r1 o2 o1 o3 ⟨.bl _, H, I, rfl, q⟩
  · exact op_inN hr pins s σ H x y v u Q I rx ry h
  · exact op_inK hr pins s σ H x y v u Q I rx ry h
  · exact op_in_sign pins s σ H x y v u Q I rx ry h
theorem op_notInA {k : Nat} (hr : Room k X.A) : OpR X (compareOp .NotIn) (rInA (ctx X) true) := by
  intro pins s σ H x y v u Q I rx ry h
  rcases h with ⟨d, ds, hd, he, ok, q⟩ | h | h | h
  · obtain ⟨o1, o2, o3⟩ := okIn_d hr.units ok
    obtain ⟨as, r1⟩ := Dp.reads I d x v hd rx
    rcases he with he | he
    · obtain ⟨bs, r2⟩ := Dp.reads I (.list ds) y u he ry
      exact SeqAt.notIn_list_data r2 r1 o2 o1 o3 ⟨.bl _, H, I, rfl, q⟩
    · obtain ⟨bs, r2⟩ := Dp.reads I (.tuple ds) y u he ry
      exact SeqAt.notIn_tuple_data r2 r1 o2 o1 o3 ⟨.bl _, H, I, rfl, q⟩
  · exact op_notInN hr pins s σ H x y v u Q I rx ry h
  · exact op_notInK hr pins s σ H x y v u Q I rx ry h
  · exact op_notIn_sign pins s σ H x y v u Q I rx ry h
theorem r2_inB {c : Ct} (neg : Bool) : R2D c (rInA c neg) (fun x y => (oInB x y).map fun b => .dat (.bool (if neg then !b else b))) := fun F ι H M m x y dx dy o Q rp rx ry e k => by
  obtain ⟨b, e0, rfl⟩ := Option.map_eq_some_iff.mp e
  clear e
  have q : Q (.bl (if neg then !b else b)) H := k.dat rp (.bl _)
  unfold oInB at e0
  split at e0
  · split at e0
    case isFalse => cases e0
    rename_i ok
    cases e0
    have ok' := ok
    unfold okIn at ok'
    simp only [Bool.and_eq_true] at ok'
    exact .inl ⟨dx, _, rx.dp ok'.1.1, .inl (ry.dp (by simpa [PyData.plain] using ok'.1.2)), ok, q⟩
  · split at e0
    case isFalse => cases e0
    rename_i ok
    cases e0
    have ok' := ok
    unfold okIn at ok'
    simp only [Bool.and_eq_true] at ok'
    exact .inl ⟨dx, _, rx.dp ok'.1.1, .inr (ry.dp (by simpa [PyData.plain] using ok'.1.2)), ok, q⟩
  · rename_i kvs
    split at e0
    case isFalse => cases e0
    rename_i ok
    cases e0
    cases hn : isN kvs with
    | true =>
      obtain ⟨r, rfl⟩ := isN_cons hn
      obtain ⟨a, rfl, hq⟩ := rx.keyD (dKey_n ok)
      obtain ⟨b, rfl, hb⟩ := ry.dn
      exact .inr (.inl ⟨F, ι, b, a, _, _, rfl, rfl, hb, hq, dKey_n ok, q⟩)
    | false =>
      obtain ⟨ky, rfl⟩ := dKey_k hn ok
      rw [dRest_k hn] at q
      cases rx.key
      obtain ⟨a, xs, rfl, ha, t⟩ := ry.dk hn
      refine .inr (.inr (.inl ⟨a, ky, xs, rfl, rfl, ha, ?_⟩))
      rw [(IsKs.look t).1]
      exact q
  · split at e0
    case isFalse => cases e0
    rename_i hsz
    cases e0
    cases rx.str
    cases ry.str
    rename_i x' y'
    refine .inr (.inr (.inr ⟨x'.cps.getD 0 0, y', ?_, rfl, q⟩))
    obtain ⟨arr⟩ := x'
    obtain ⟨l⟩ := arr
    simp only at hsz
    match l, hsz with
    | [c], _ => rfl
  · cases e0
theorem c_in {k : Nat} (hr : Room k X.A) : CmpOk X .In oIn := ⟨_, op_inA hr, r2_inB false⟩
theorem c_notin {k : Nat} (hr : Room k X.A) : CmpOk X .NotIn oNotIn := ⟨_, op_notInA hr, r2_inB true⟩
end
end EL
namespace EL
open PySem PySem.Spec PyProof.Rows L2

/-- the module's name x is the datum d -/
structure GlD (K : PySem.W.Frag) (mg : Str → Option Value) (x : Str) (d : D) : Prop where
  ex : ∃ v u, mg x = some u ∧ RelV v u ∧ ∀ (c : Ct) (ι : List Addr) (H : Hp), c.K = K → IsD c ι H v d
theorem pd_gl {X : Cx} {x : Str} {d : D} {pos : Pos} (g : GlD X.K X.mg x d) (hg : Gl X x) (hd : (x == ("__debug__" : Str)) = false := by decide) : PD X (.Name x pos) (dC d) := by
  obtain ⟨v, u, h1, h2, h3⟩ := g.ex
  exact pd_c (pe_glob hg h1 h2 hd) fun F ι H => h3 _ ι H rfl

def dOk (fe : DE) : DX := fun Γ M => (fe Γ M).map fun p => (.ok p.1, p.2)
section
variable {X : Cx} {W : WX} {e a b : Expr} {fe fa : DE} {fx : DX} {pos : Pos}
theorem rdX_ok {c : Ct} {σ : L2.St} {H : Hp} {Q : VK} (q : rdX c W (dOk fe) σ H Q) : rdE c fe σ H Q := by
  obtain ⟨F, ι, Γ, M, r, M', w, e, k, _⟩ := q
  obtain ⟨⟨s, M1⟩, e1, e⟩ := Option.map_eq_some_iff.mp e
  cases e
  exact ⟨F, ι, Γ, M, s, M1, w, e1, k s rfl⟩
theorem pdx_ok (h : PD X e fe) : PDX X W e (dOk fe) := PE.weak h fun _ _ _ => rdX_ok
/-- a op b, b may raise -/
def dBinX (g : D → D → Option OR) (fa : DE) (fx : DX) : DX := fun Γ M => (fa Γ M).bind fun p => (fx Γ p.2).bind fun q => match q.1 with
  | .er e => some (.er e, q.2)
  | .ok s => (val p.1 q.2).bind fun d => (val s q.2).bind fun e => (g d e).map fun o => (.ok (o.out false q.2).1, (o.out false q.2).2)
theorem rd_binX {r : R2} {g : D → D → Option OR} (hr : R2D (ctx X) r g) {σ : L2.St} {H : Hp} {Q : VK} (q : rdX (ctx X) W (dBinX g fa fx) σ H Q) : tOp r (rdE (ctx X) fa) (rdX (ctx X) W fx) σ H Q := by
  obtain ⟨F, ι, Γ, M, s, M', w, e, k, ke⟩ := q
  obtain ⟨⟨sa, M1⟩, e1, e⟩ := Option.bind_eq_some_iff.mp e
  obtain ⟨⟨sb, M2⟩, e2, e⟩ := Option.bind_eq_some_iff.mp e
  refine ⟨F, ι, Γ, M, sa, M1, w, e1, fun v ι1 H1 x1 r1 i1 => ?_⟩
  refine ⟨F, ι1, Γ, M1, sb, M2, w.next x1 r1, e2, fun s2 hs v2 ι2 H2 x2 r2 i2 => ?_, fun er hs cls d ι2 H2 x2 r2 ie => ?_⟩
  · subst hs
    obtain ⟨da, e3, e⟩ := Option.bind_eq_some_iff.mp e
    obtain ⟨db, e4, e⟩ := Option.bind_eq_some_iff.mp e
    obtain ⟨o, e5, e⟩ := Option.map_eq_some_iff.mp e
    cases e
    exact hr F ι2 H2 M2 false v v2 da db o Q r2 (rdb_of r2 (i1.mono x2) e3) (rdb_of r2 i2 e4) e5 fun v' ι3 H3 x3 r3 i3 => k _ rfl v' ι3 H3 (x1.trans (x2.trans x3)) r3 i3
  · subst hs
    cases e
    exact ke er rfl cls d ι2 H2 (x1.trans x2) r2 ie
theorem pdx_op {op : Operator} {r : R2} {g : D → D → Option OR} (ho : OpR X (binaryOp op) r) (hr : R2D (ctx X) r g) (ha : PD X a fa) (hb : PDX X W b fx) : PDX X W (.BinOp a op b pos) (dBinX g fa fx) :=
  PE.weak (pe_op ho ha hb) fun _ _ _ => rd_binX hr
theorem pdx_add (ha : PD X a fa) (hb : PDX X W b fx) : PDX X W (.BinOp a .Add b pos) (dBinX oAdd fa fx) := pdx_op op_addAll r2_add ha hb
theorem pdx_sub (ha : PD X a fa) (hb : PDX X W b fx) : PDX X W (.BinOp a .Sub b pos) (dBinX oSub fa fx) := pdx_op op_sub r2_sub ha hb
theorem pdx_mul (ha : PD X a fa) (hb : PDX X W b fx) : PDX X W (.BinOp a .Mult b pos) (dBinX oMul fa fx) := pdx_op op_mulAll r2_mul ha hb
/-- arguments of which one may raise -/
inductive RA where
  | ok (ss : List SV)
  | er (e : Er)
abbrev DAX := Ga → Sto → Option (RA × Sto)
def rdAX (c : Ct) (W : WX) (f : DAX) : TA := fun σ H Q => ∃ F ι Γ M r M', Wd (c.at F) ι σ H Γ M ∧ f Γ M = some (r, M') ∧ (∀ ss, r = .ok ss → ∀ vs ι' H', Ext ι H ι' H' → Rep (c.at F) ι' H' M' → IsSs (c.at F) ι' H' vs ss → Q vs H') ∧
  ∀ e, r = .er e → ∀ cls d ι' H', Ext ι H ι' H' → Rep (c.at F) ι' H' M' → IsEr (c.at F) ι' H' cls d e → W cls d σ H'
abbrev PDAX (X : Cx) (W : WX) (es : List Expr) (f : DAX) : Prop := PA X es (rdAX (ctx X) W f)
def dNilX : DAX := fun _ M => some (.ok [], M)
def dConsX (fx : DX) (fr : DAX) : DAX := fun Γ M => (fx Γ M).bind fun p => match p.1 with
  | .er e => some (.er e, p.2)
  | .ok s => (fr Γ p.2).map fun q => match q.1 with
    | .er e => (.er e, q.2)
    | .ok ss => (.ok (s :: ss), q.2)
theorem pdax_nil : PDAX X W [] dNilX := PA.weak pa_nil fun σ H Q ⟨F, ι, Γ, M, r, M', w, e, k, _⟩ => by
  cases e
  exact k [] rfl [] ι H .refl w.rep .nil
theorem pdax_cons {es : List Expr} {fr : DAX} (ha : PDX X W e fx) (hr : PDAX X W es fr) (hs : starEach (e :: es) X.env = (false, eval e X.env) :: starEach es X.env := by rfl) : PDAX X W (e :: es) (dConsX fx fr) :=
  PA.weak (pa_cons ha hr hs) fun σ H Q ⟨F, ι, Γ, M, r, M', w, e, k, ke⟩ => by
    obtain ⟨⟨sa, M1⟩, e1, e⟩ := Option.bind_eq_some_iff.mp e
    refine ⟨F, ι, Γ, M, sa, M1, w, e1, fun s2 hs v ι1 H1 x1 r1 i1 => ?_, fun er hs cls d ι1 H1 x1 r1 ie => ?_⟩
    · subst hs
      obtain ⟨⟨sb, M2⟩, e2, e⟩ := Option.map_eq_some_iff.mp e
      refine ⟨F, ι1, Γ, M1, sb, M2, w.next x1 r1, e2, fun ss hs vs ι2 H2 x2 r2 i2 => ?_, fun er hs cls d ι2 H2 x2 r2 ie => ?_⟩
      · subst hs
        cases e
        exact k _ rfl _ ι2 H2 (x1.trans x2) r2 (.cons (i1.mono x2) i2)
      · subst hs
        cases e
        exact ke _ rfl cls d ι2 H2 (x1.trans x2) r2 ie
    · subst hs
      cases e
      exact ke _ rfl cls d ι1 H1 x1 r1 ie
def dTupX (fr : DAX) : DX := fun Γ M => (fr Γ M).bind fun p => match p.1 with
  | .er e => some (.er e, p.2)
  | .ok ss => (dats ss).bind fun ds => if ds.length ≤ LIM then some (.ok (.dat (.tuple ds)), p.2) else none
def dLstX (fr : DAX) (m : Bool := false) : DX := fun Γ M => (fr Γ M).bind fun p => match p.1 with
  | .er e => some (.er e, p.2)
  | .ok ss => (dats ss).bind fun ds => if ds.length ≤ LIM then some (.ok ((OR.new (.list ds)).out m p.2).1, ((OR.new (.list ds)).out m p.2).2) else none
theorem pdx_tup {es : List Expr} {fr : DAX} {x1} (h : PDAX X W es fr) : PDX X W (.Tuple es x1 pos) (dTupX fr) :=
  PE.weak (pe_tup h) fun σ H Q ⟨F, ι, Γ, M, r, M', w, e, k, ke⟩ => by
    obtain ⟨⟨sa, M1⟩, e1, e⟩ := Option.bind_eq_some_iff.mp e
    refine ⟨F, ι, Γ, M, sa, M1, w, e1, fun ss hs vs ι1 H1 x1 r1 i1 => ?_, fun er hs cls d ι1 H1 x1 r1 ie => ?_⟩
    · subst hs
      obtain ⟨ds, e2, e⟩ := Option.bind_eq_some_iff.mp e
      split at e
      case isFalse => cases e
      rename_i hl
      cases e
      have i2 := dats_ok e2 i1
      refine ⟨by rw [i2.length]; exact lim_le hl, fun p hp => ?_⟩
      exact k _ rfl _ ι1 _ (x1.trans (Ext.new hp)) (r1.new hp) (.dat (.tup (.inl ⟨upd_same, r1.nin hp⟩) (i2.mono (Ext.new hp))))
    · subst hs
      cases e
      exact ke _ rfl cls d ι1 H1 x1 r1 ie
theorem pdx_lst {es : List Expr} {fr : DAX} {m : Bool} (h : PDAX X W es fr) : PDX X W (.List es pos) (dLstX fr m) :=
  PE.weak (pe_lst h) fun σ H Q ⟨F, ι, Γ, M, r, M', w, e, k, ke⟩ => by
    obtain ⟨⟨sa, M1⟩, e1, e⟩ := Option.bind_eq_some_iff.mp e
    refine ⟨F, ι, Γ, M, sa, M1, w, e1, fun ss hs vs ι1 H1 x1 r1 i1 => ?_, fun er hs cls d ι1 H1 x1 r1 ie => ?_⟩
    · subst hs
      obtain ⟨ds, e2, e⟩ := Option.bind_eq_some_iff.mp e
      split at e
      case isFalse => cases e
      rename_i hl
      cases e
      have i2 := dats_ok e2 i1
      refine ⟨by rw [i2.length]; exact lim_le hl, fun p hp => ?_⟩
      have K : AftO ((ctx X).at F) ι1 H1 M1 m (.new (.list ds)) Q := fun v4 ι4 H4 x4 r4 i4 => k _ rfl v4 ι4 H4 (x1.trans x4) r4 i4
      exact K.newL r1 i2 hp
    · subst hs
      cases e
      exact ke _ rfl cls d ι1 H1 x1 r1 ie
end

def sEx (e : Er) : DS := fun Γ M => some (.ex e, Γ, M)
def sRetX (fx : DX) : DS := fun Γ M => (fx Γ M).map fun p => match p.1 with
  | .ok s => (.rt s, Γ, p.2)
  | .er e => (.ex e, Γ, p.2)
def sExprX (fx : DX) : DS := fun Γ M => (fx Γ M).map fun p => match p.1 with
  | .ok _ => (.nx, Γ, p.2)
  | .er e => (.ex e, Γ, p.2)
def sAsgX (i : Nat) (fx : DX) : DS := fun Γ M => (fx Γ M).map fun p => match p.1 with
  | .ok s => (.nx, Γ.set i (some s), p.2)
  | .er e => (.ex e, Γ, p.2)
/-- what an own class of exceptions over ValueError without __init__ is -/
structure ExcC (K : PySem.W.Frag) (mg : Str → Option Value) (x : Str) : Prop where
  ex : ∃ C, mg x = some (.ref C) ∧ PySem.W.excIn K C He.veBase "ValueError.__new__" = true ∧ PySem.W.keepIn K (.ref C) = true ∧ PySem.W.subIn K (.ref C) (.type "BaseException") = some true ∧ PySem.W.typeIn K (.ref C) = some (.type "type")
section
variable {X : Cx} {W : WX} {e : Expr} {fx : DX} {pos : Pos}
theorem pds_raise {x m : Str} {j : Nat} {p p2 pos' : Pos} (hc : X.calm = true) (tk : Takes X W) (E : ExcC X.K X.mg x) (hg : Gl X x) (hdb : (x == ("__debug__" : Str)) = false := by decide) : PDS X W (.Raise (some (.Call (.Name x p) [.Constant (.str m) j p2] [] pos')) none pos) (sEx ⟨x, []⟩) := by
  obtain ⟨C, g, q, kC, b, t⟩ := E.ex
  refine PS.weak (ps_raise hc tk (pmk_own PySem.F.excBase_ValueError q g kC (raises_own b t) hg hdb)) fun D σ H ⟨F, ι, Γ, M, fl, Γ', M', w, e, k⟩ => ?_
  cases e
  exact k ι σ H .refl w (.ref C) none ⟨C, g, rfl, .inl ⟨rfl, rfl⟩⟩
theorem pds_retX (he : PDX X W e fx) : PDS X W (.Return (some e) pos) (sRetX fx) := PS.weak (ps_ret he) fun E σ H ⟨F, ι, Γ, M, fl, Γ', M', w, e, k⟩ => by
  obtain ⟨⟨s, M1⟩, e1, e⟩ := Option.map_eq_some_iff.mp e
  refine ⟨F, ι, Γ, M, s, M1, w, e1, fun s2 hs v ι1 H1 x1 r1 i1 => ?_, fun er hs cls d ι1 H1 x1 r1 ie => ?_⟩
  · subst hs
    cases e
    exact k ι1 σ H1 x1 (w.next x1 r1) v i1
  · subst hs
    cases e
    exact k ι1 σ H1 x1 (w.next x1 r1) cls d ie
theorem pds_exprX (he : PDX X W e fx) (hs : swapsWith e none pos.line X.env = pure false := by rfl) : PDS X W (.Expr e pos) (sExprX fx) := PS.weak (ps_expr he hs) fun E σ H ⟨F, ι, Γ, M, fl, Γ', M', w, e, k⟩ => by
  obtain ⟨⟨s, M1⟩, e1, e⟩ := Option.map_eq_some_iff.mp e
  refine ⟨F, ι, Γ, M, s, M1, w, e1, fun s2 hs v ι1 H1 x1 r1 i1 => ?_, fun er hs cls d ι1 H1 x1 r1 ie => ?_⟩
  · subst hs
    cases e
    exact k ι1 σ H1 x1 (w.next x1 r1)
  · subst hs
    cases e
    exact k ι1 σ H1 x1 (w.next x1 r1) cls d ie
theorem pds_setX (i : Nat) {x : Str} {pos' : Pos} (he : PDX X W e fx) (hN : X.N.Nodup) (hi : X.N[i]? = some x := by rfl) (hx : Loc X.env.scope x := by first | exact .inl rfl | exact .inr rfl) (hs : swapsWith e (some (.Name x pos')) pos.line X.env = pure false := by rfl) (hf : X.fn x = true ∨ X.env.scope.names.lookup x = some .local := by first | exact .inl rfl | exact .inr rfl | assumption) :
    PDS X W (.Assign [.Name x pos'] e pos) (sAsgX i fx) := PS.weak (ps_set hN hi hx he hs hf) fun E σ H ⟨F, ι, Γ, M, fl, Γ', M', w, e, k⟩ => by
  obtain ⟨⟨s, M1⟩, e1, e⟩ := Option.map_eq_some_iff.mp e
  refine ⟨F, ι, Γ, M, s, M1, w, e1, fun s2 hs v ι1 H1 x1 r1 i1 => ?_, fun er hs cls d ι1 H1 x1 r1 ie => ?_⟩
  · subst hs
    cases e
    exact k ι1 _ H1 x1 ((w.next x1 r1).set i1 i)
  · subst hs
    cases e
    exact k ι1 σ H1 x1 (w.next x1 r1) cls d ie
/-- xs.append(e), e may raise -/
def dMethWX (T : String) (g : Cell → List SV → Option (Cell × SV)) (fo : DE) (fr : DAX) : DX := fun Γ M => (fo Γ M).bind fun p => match p.1 with
  | .ptr n => (p.2[n]?).bind fun d1 => if tyC T d1 = true then (fr Γ p.2).bind fun q => (match q.1 with
    | .er e => some (.er e, q.2)
    | .ok ss => (q.2[n]?).bind fun d => (g d ss).map fun o => (.ok o.2, q.2.set n o.1)) else none
  | _ => none
theorem rd_methWX {T : String} {r : V → List V → Hp → VK → Prop} {fo : DE} {fr : DAX} {g : Cell → List SV → Option (Cell × SV)} (hr : RMW (ctx X) r g) {σ : L2.St} {H : Hp} {Q : VK} (q : rdX (ctx X) W (dMethWX T g fo fr) σ H Q) : (rdE (ctx X) fo) σ H fun x H1 => TyP X T x H1 ∧ (rdAX (ctx X) W fr) σ H1 fun xs H2 => r x xs H2 Q := by
  obtain ⟨F, ι, Γ, M, s, M', w, e, k, ke⟩ := q
  obtain ⟨⟨so, M1⟩, e1, e⟩ := Option.bind_eq_some_iff.mp e
  refine ⟨F, ι, Γ, M, so, M1, w, e1, fun v ι1 H1 x1 r1 i1 => ?_⟩
  simp only at e
  split at e
  case h_2 => cases e
  rename_i n
  obtain ⟨d1, e2, e⟩ := Option.bind_eq_some_iff.mp e
  split at e
  case isFalse => cases e
  rename_i ht
  obtain ⟨⟨ra, M2⟩, e3, e⟩ := Option.bind_eq_some_iff.mp e
  cases i1 with
  | @ptr a _ ha =>
    refine ⟨tyC_of (r1.at_ n a _ ha e2) ht, F, ι1, Γ, M1, ra, M2, w.next x1 r1, e3, fun ss hs vs ι2 H2 x2 r2 i2 => ?_, fun er hs cls d ι2 H2 x2 r2 ie => ?_⟩
    · subst hs
      simp only at e
      obtain ⟨d, e4, e⟩ := Option.bind_eq_some_iff.mp e
      obtain ⟨⟨d', res⟩, e6, e⟩ := Option.map_eq_some_iff.mp e
      cases e
      have ha2 := x2.at ha
      exact hr F ι2 H2 M2 a n vs d d' res ss Q r2 ha2 (r2.at_ n a d ha2 e4) i2 e6 fun v' H3 x3 r3 i3 => k _ rfl v' ι2 H3 (x1.trans (x2.trans x3)) r3 i3
    · subst hs
      cases e
      exact ke _ rfl cls d ι2 H2 (x1.trans x2) r2 ie
theorem rmw_append {c : Ct} : RMW c rAppend cAppend := fun F ι H M a n xs d d' res ds Q r ha ow t e k => by
    unfold cAppend at e
    split at e
    · split at e
      · rename_i hl
        cases e
        cases ow with
        | fl ow =>
        cases ow with
        | @lst ys _ hp u =>
          cases t with
          | cons h t =>
            cases t
            cases h with
            | dat h =>
            obtain ⟨x1, r1⟩ := r.putL ha (u.append (.cons h .nil))
            exact ⟨a, ys, _, rfl, rfl, hp, by rw [u.length]; exact lim_lt (Nat.le_of_lt hl), k _ _ x1 r1 (.dat .non)⟩
      · cases e
    · split at e
      · rename_i hl
        cases e
        cases ow with
        | fl ow =>
        cases ow with
        | @lst ys _ hp u =>
          cases t with
          | cons h t =>
            cases t
            obtain ⟨x1, r1⟩ := r.putS ha (u.ss.append (.cons h .nil))
            exact ⟨a, ys, _, rfl, rfl, hp, by rw [u.length]; exact lim_lt (Nat.le_of_lt hl), k _ _ x1 r1 (.dat .non)⟩
      · cases e
    · split at e
      · rename_i hl
        cases e
        cases ow with
        | @ls ys _ hp u =>
          cases t with
          | cons h t =>
            cases t
            obtain ⟨x1, r1⟩ := r.putS ha (u.append (.cons h .nil))
            exact ⟨a, ys, _, rfl, rfl, hp, by rw [u.length]; exact lim_lt (Nat.le_of_lt hl), k _ _ x1 r1 (.dat .non)⟩
      · cases e
    · cases e
theorem pdx_append {o : Expr} {fo : DE} {fr : DAX} {apos cpos : Pos} (ho : PD X o fo) (ha : PDAX X W [e] fr) (hbase : attributeBase o "append" X.env (eval o X.env) = eval o X.env := by rfl) (hline : (apos.endLine == cpos.line) = true := by rfl) (hs : starEach [e] X.env = (false, eval e X.env) :: starEach [] X.env := by rfl)
    (hfew : ((backTo cpos (starEach [e] X.env)).all (fun x => !x.1) && (backToKw cpos (keywordEach [] X.env)).all (fun x => x.1.isSome)
      && decide ([e].length + ([] : List Keyword).length + (if ([] : List Keyword).isEmpty then 0 else 1) < 30)) = true := by rfl) : PDX X W (.Call (.Attribute o "append" apos) [e] [] cpos) (dMethWX "list" cAppend fo fr) :=
  PE.weak (pe_bmG PySem.F.plainAttrs_list PySem.F.slot_list_append PySem.F.type_list_append mt_append ho ha hbase hfew hline hs rfl) fun _ _ _ => rd_methWX rmw_append
end

/-- cm: which classes of exceptions the clause takes -/
def sTry (fb : DS) (cm : List (Str × Bool)) (fs : DS) : DS := fun Γ M => (fb Γ M).bind fun r => match r.1 with
  | .ex e => (match cm.lookup e.cls with
    | some true => (fs r.2.1 r.2.2).bind fun q => (match q.1 with
      | .ex _ => none
      | _ => some q)
    | some false => some r
    | none => none)
  | _ => some r
/-- which of the classes are the clause's -/
def ExM (K : PySem.W.Frag) (mg : Str → Option Value) (c : Value) (cm : List (Str × Bool)) : Prop := ∀ n b, cm.lookup n = some b → ∀ A, mg n = some (.ref A) → PySem.W.exmOne K (.ref A) c = some b
section
variable {X : Cx} {W : WX} {x : Str} {c : Value} {body suite : List Stmt} {b₀ : Stmt} {np pos pos' : Pos} {fb fs : DS} {cm : List (Str × Bool)}
theorem pds_try (hs : X.stack = X.env :: X.outer) (hf : X.env.frame = some X.env.locals) (hc : Names X x c) (tk : Takes X W) (hcm : ExM X.K X.mg c cm)
    (hb : ∀ (W' : WX) (pn : List (Addr × Obj)) (xe : Value → Shared → Prop), Takes (X.tr pn xe) W' → PassesOwn (model X.prog X.w) X.A X.env xe → PDSs (X.tr pn xe) W' body fb)
    (hsu : ∀ (a : Addr) (pn : List (Addr × Obj)), PDSs (X.suite a pn) (fun _ _ _ _ => False) (b₀ :: suite) fs) :
    PDS X W (.Try body [.ExceptHandler (some (.Name x np)) none (b₀ :: suite) pos'] [] [] pos) (sTry fb cm fs) := by
  refine PS.weak (ps_try_only (tb := fun W' => rdS (ctx X) W' fb) (ts := fun _ _ _ => rdS (ctx X) (fun _ _ _ _ => False) fs) (Wout := W) hs hf hc tk (fun W' pn xe t p => hb W' pn xe t p) fun a oe cls d pn _ _ => hsu a _) fun E σ H ⟨F, ι, Γ, M, fl, Γ', M', w, e, k⟩ => ?_
  obtain ⟨⟨f1, Γ1, M1⟩, e1, e⟩ := Option.bind_eq_some_iff.mp e
  refine ⟨F, ι, Γ, M, f1, Γ1, M1, w, e1, fun ι1 σ1 H1 x1 w1 => ?_⟩
  cases f1 with
  | nx => cases e; exact k ι1 σ1 H1 x1 w1
  | rt s => cases e; exact k ι1 σ1 H1 x1 w1
  | bk => cases e; exact k ι1 σ1 H1 x1 w1
  | ct => cases e; exact k ι1 σ1 H1 x1 w1
  | ex er =>
    intro cls d ie
    simp only at e
    split at e
    · rename_i hl
      obtain ⟨⟨f2, Γ2, M2⟩, e2, e⟩ := Option.bind_eq_some_iff.mp e
      obtain ⟨A, g1, rfl, _⟩ := ie
      refine ⟨true, hcm _ _ hl A g1, fun _ a ha => ?_, fun z => nomatch z⟩
      refine ⟨F, ι1, Γ1, M1, f2, Γ2, M2, w1, e2, fun ι2 σ2 H2 x2 w2 => ?_⟩
      cases f2 with
      | nx => cases e; exact k ι2 σ2 H2 (x1.trans x2) w2
      | rt s => cases e; exact k ι2 σ2 H2 (x1.trans x2) w2
      | bk => cases e; exact k ι2 σ2 H2 (x1.trans x2) w2
      | ct => cases e; exact k ι2 σ2 H2 (x1.trans x2) w2
      | ex er => cases e
    · rename_i hl
      cases e
      have ie' := ie
      obtain ⟨A, g1, rfl, _⟩ := ie
      exact ⟨false, hcm _ _ hl A g1, (fun z => nomatch z), fun _ => k ι1 σ1 H1 x1 w1 (.ref A) d ie'⟩
    · cases e
end
end EL
namespace EL
open PySem PySem.Spec PyProof.Rows L2

/-- the state that a law draws from, at its start -/
def state0 (ns : List Int) : D := .list [.list (ns.map PyData.int), .int 0, .int 0, .int 0]
def spStart (c : Ct) : Sp := fun vs H Q _ => ∃ F ι M a ns, vs = [.ref a] ∧ Rep (c.at F) ι H M ∧ SqL c.K H a (ns.map V.int) ∧
  ∀ b H', Ext ι H (ι ++ [b]) H' → Rep (c.at F) (ι ++ [b]) H' (M ++ [.fl (state0 ns)]) → Q (.ref b) H'
section
variable {P : Program} {w : World} {K : PySem.W.Frag} {mg : Str → Option Value} {base : Heap} {params : Arguments} {scope : Scope} {f : Addr} {fd : FuncData} {p1 p2 p3 p4 p5 p6 p7 p8 : Pos} {j1 j2 j3 : Nat}
theorem start_ok {body : List Stmt} (F : FunD K "_law_start" "_law_start" params body scope [] [] f fd) (S : FnScope ["script"] ["script"] scope) (hg : ∀ cdv n, (envOfC "_law_start" scope n f cdv).kindOf "list" = some .globalImplicit) (hm : mg "list" = none)
    (hs : scope.names.lookup ("script" : Str) = some .local)
    (hb : body = [.Return (some (.List [.Call (.Name "list" p1) [.Name "script" p2] [] p3, .Constant (.int 0) j1 p4, .Constant (.int 0) j2 p5, .Constant (.int 0) j3 p6] p7)) p8]) : FnOk P w K mg base CX0 1 f fd ["script"] (spStart ⟨P, w, K, mg, []⟩) := by
  subst hb
  refine F.ok S (fun vs H Q E h => ?_) (fun cdv A outer s H vs Q E hr h => ?_)
  · obtain ⟨_, _, _, _, _, rfl, _⟩ := h
    rfl
  · refine ⟨_, pss_one (ps_ret (pe_lst (pa_cons (pe_callTy call_list_of (hg cdv _) hm boot_list (pa_cons (pv 0 (hv := .inl hs)) pa_nil)) (pa_cons pe_int (pa_cons pe_int (pa_cons pe_int pa_nil)))))), ?_⟩
    obtain ⟨F, ι, M, a, ns, rfl, r, hq, q⟩ := h
    refine ⟨_, rfl, a, _, rfl, .inl hq, fun l hl => ?_⟩
    refine ⟨by show 4 ≤ sizeLine; decide, fun p hp => ?_⟩
    have r1 : Rep (Ct.at ⟨P, w, K, mg, []⟩ F) ι (upd H l (.lst (ns.map V.int))) M := r.new hl
    have x1 : Ext ι H ι (upd H l (.lst (ns.map V.int))) := .new hl
    have d1 : IsD (Ct.at ⟨P, w, K, mg, []⟩ F) ι (upd H l (.lst (ns.map V.int))) (.ref l) (.list (ns.map PyData.int)) := .lst upd_same (r.nin hl) (isDs_ints ns)
    have x2 : Ext ι (upd H l (.lst (ns.map V.int))) (ι ++ [p]) (upd (upd H l (.lst (ns.map V.int))) p (.lst [.ref l, .int 0, .int 0, .int 0])) := .newP hp
    exact q p _ (x1.trans x2) (r1.newP hp (.fl (.lst upd_same (.cons (d1.mono x2) (.cons (.int 0) (.cons (.int 0) (.cons (.int 0) .nil)))))))
/-- the promise of a law's def -/
def spLaw (K : PySem.W.Frag) : Sp := fun vs H Q _ => ∃ (a : Addr) (ns : List Int), vs = [.ref a] ∧ ns.length ≤ 63 ∧ SqL K H a (ns.map V.int) ∧ ∀ H', Q (.bl true) H'
theorem law_ok {N : List Str} {k j : Nat} {qual x : Str} {body rest : List Stmt} {db : DS} {fs : Addr} {fds : FuncData} (F : FunD K x qual params body scope [] [] f fd) (S : FnScope N ["script"] scope)
    (hN : N[1]? = some ("state" : Str)) (hN0 : N[0]? = some ("script" : Str)) (hs : scope.names.lookup ("script" : Str) = some .local) (hst : Loc scope ("state" : Str))
    (hgl : ∀ cdv n, (envOfC qual scope n f cdv).kindOf "_law_start" = some .globalImplicit)
    (Fs : FnOk P w K mg base CX0 j fs fds ["script"] (spStart ⟨P, w, K, mg, []⟩)) (hms : mg "_law_start" = some (.ref fs)) (hks : PySem.W.keepIn K (.ref fs) = true) (hbs : Binds K fds ["script"] []) (hj : j ≤ k)
    (hb : body = .Assign [.Name "state" p1] (.Call (.Name "_law_start" p2) [.Name "script" p3] [] p4) p5 :: rest)
    (hr : ∀ (cdv : Value) (A : Around) (outer : List Env) (s : Shared) (H : Hp) (E : XK), Room k (A.deeper (envOfC qual scope s.heap.objs.size f cdv)) → PDSs (cxOf CX0 P w K mg base N qual scope f cdv A outer s H E).nox (fun _ _ _ _ => False) rest db)
    (hlaw : ∀ ns : List Int, ns.length ≤ 63 → ∃ Γ' M', db (none :: some (.ptr 0) :: List.replicate (N.length - 2) none) [.fl (state0 ns)] = some (.rt (.dat (.bool true)), Γ', M')) :
    FnOk P w K mg base CX0 (k + 1) f fd ["script"] (spLaw K) := by
  subst hb
  refine F.ok S (fun vs H Q E h => ?_) (fun cdv A outer s H vs Q E hroom h => ?_)
  · obtain ⟨_, _, rfl, _⟩ := h
    rfl
  · refine ⟨_, pss_cons (ps_set (i := 1) S.nd hN hst (pe_call (dvs := []) (ds := []) (E := E0) Fs (hroom.mono hj) (hgl cdv _) hms hks hbs .nil pass0 (pa_cons (pv 0 (hN := hN0) (hv := .inl hs)) pa_nil))) (PSs.nox (hr cdv A outer s H E hroom)), ?_⟩
    obtain ⟨a, ns, rfl, hl, hq, q⟩ := h
    obtain ⟨Γ', M', e⟩ := hlaw ns hl
    refine ⟨_, rfl, [], [], [], a, ns, rfl, ⟨rfl, .nil, fun a h => (nomatch h), fun n a d h => (nomatch h)⟩, hq, fun b H' x r => ?_⟩
    refine ⟨[], [b], _, [.fl (state0 ns)], _, Γ', M', ⟨r, ?_, fun i s' hs' => ?_⟩, e, fun ι' σ' H2 x2 w2 => ?_⟩
    · have h1 := List.getElem?_eq_some_iff.mp hN
      have := h1.1
      show ((L2.start N [V.ref a]).set 1 _).length = _
      rw [List.length_set]
      simp [L2.start]
      omega
    · cases i with
      | zero => cases hs'
      | succ i =>
        cases i with
        | zero =>
          have : s' = .ptr 0 := (Option.some.inj (Option.some.inj hs')).symm
          subst this
          refine ⟨.ref b, ?_, .ptr rfl⟩
          have h1 := List.getElem?_eq_some_iff.mp hN
          have := h1.1
          show ((L2.start N [V.ref a]).set 1 (some (V.ref b)))[1]? = _
          rw [List.getElem?_set_self]
          simp [L2.start]
          omega
        | succ i =>
          have hs2 : (List.replicate (N.length - 2) (none : Option SV))[i]? = some (some s') := hs'
          have := List.mem_of_getElem? hs2
          rw [List.mem_replicate] at this
          cases this.2
    · intro v iv
      cases iv with
      | dat iv =>
        cases iv
        exact q H2
end
/-- a def that never answers -/
theorem pdss_none {X : Cx} {W : WX} {st : List Stmt} : PDSs X W st (fun _ _ => none) := ⟨fun _ _ _ _ _ _ h => by
  obtain ⟨_, _, _, _, _, _, _, _, e, _⟩ := h
  cases e⟩
section
variable {W : WX} {X : Cx} {elt tg iter tg1 iter1 : Expr} {ifs ifs1 : List Expr} {scope : Scope} {pos : Pos} {fi fi1 : DI} {ts ow ts1 own1 : List Nat} {g g1 : DG} {tt tt1 : DT} {te : DE} {m : Bool}
theorem pd_compq (own : List (Str × Nat)) (hc : X.calm = true) (hN : X.N.Nodup) (hi : PDI X tg iter fi) (ok : BlkOk X.N X.env.scope scope own)
    (hg : ∀ (s : Shared) (H : Hp) (C : Addr) (cl : List (Str × Addr)) (fp : List Addr), PDG (X.blk s H scope (compEnvC scope cl C X.env) fp) tg ts g) (ht : ∀ (s : Shared) (H : Hp) (C : Addr) (cl : List (Str × Addr)) (fp : List Addr), PDTs (X.blk s H scope (compEnvC scope cl C X.env) fp) ifs tt)
    (he : ∀ (s : Shared) (H : Hp) (C : Addr) (cl : List (Str × Addr)) (fp : List Addr), PD (X.blk s H scope (compEnvC scope cl C X.env) fp) elt te) (hw : own.map (·.2) = ow := by rfl) (ho : ∀ k ∈ ts, k ∈ ow := by decide) (hs : ∀ x, foldedSetIterable iter X.env x = pure x := by intro _; rfl) :
    PD X (.ListComp elt [⟨tg, iter, ifs, 0⟩] scope pos) (dComp fi (cStep g tt ow te) m) := by
  subst hw
  exact pd_comp hc hN hi ok hg ht he ho hs
theorem pds_setCompq (own : List (Str × Nat)) {i : Nat} {y : Str} {py spos : Pos} (hc : X.calm = true) (hN : X.N.Nodup) (hy : X.N[i]? = some y) (hyl : X.env.scope.names.lookup y = some .local)
    (hsw : swapsWith (.ListComp elt [⟨tg, iter, ifs, 0⟩] scope pos) (some (.Name y py)) spos.line X.env = pure true) (hi : PDI X tg iter fi) (ok : BlkOk X.N X.env.scope scope own)
    (hg : ∀ (s : Shared) (H : Hp) (C : Addr) (cl : List (Str × Addr)) (fp : List Addr), PDG (X.blk s H scope (compEnvC scope cl C X.env) fp) tg ts g) (ht : ∀ (s : Shared) (H : Hp) (C : Addr) (cl : List (Str × Addr)) (fp : List Addr), PDTs (X.blk s H scope (compEnvC scope cl C X.env) fp) ifs tt)
    (he : ∀ (s : Shared) (H : Hp) (C : Addr) (cl : List (Str × Addr)) (fp : List Addr), PD (X.blk s H scope (compEnvC scope cl C X.env) fp) elt te) (hw : own.map (·.2) = ow := by rfl) (ho : ∀ k ∈ ts, k ∈ ow := by decide) (hs : ∀ x, foldedSetIterable iter X.env x = pure x := by intro _; rfl) :
    PDS X W (.Assign [.Name y py] (.ListComp elt [⟨tg, iter, ifs, 0⟩] scope pos) spos) (sAsg i (dComp fi (cStep g tt ow te) m)) := by
  subst hw
  exact pds_setComp hc hN hy hyl hsw hi ok hg ht he ho hs
theorem pd_compq2 (own : List (Str × Nat)) (hc : X.calm = true) (hN : X.N.Nodup) (hi : PDI X tg iter fi) (ok : BlkOk X.N X.env.scope scope own)
    (hg : ∀ (s : Shared) (H : Hp) (C : Addr) (cl : List (Str × Addr)) (fp : List Addr), PDG (X.blk s H scope (compEnvC scope cl C X.env) fp) tg ts g) (ht : ∀ (s : Shared) (H : Hp) (C : Addr) (cl : List (Str × Addr)) (fp : List Addr), PDTs (X.blk s H scope (compEnvC scope cl C X.env) fp) ifs tt)
    (hi1 : ∀ (s : Shared) (H : Hp) (C : Addr) (cl : List (Str × Addr)) (fp : List Addr), PDI (X.blk s H scope (compEnvC scope cl C X.env) fp) tg1 iter1 fi1)
    (hg1 : ∀ (s : Shared) (H : Hp) (C : Addr) (cl : List (Str × Addr)) (fp : List Addr), PDG (X.blk s H scope (compEnvC scope cl C X.env) fp) tg1 ts1 g1) (ht1 : ∀ (s : Shared) (H : Hp) (C : Addr) (cl : List (Str × Addr)) (fp : List Addr), PDTs (X.blk s H scope (compEnvC scope cl C X.env) fp) ifs1 tt1)
    (he : ∀ (s : Shared) (H : Hp) (C : Addr) (cl : List (Str × Addr)) (fp : List Addr), PD (X.blk s H scope (compEnvC scope cl C X.env) fp) elt te) (hw : own.map (·.2) = ow := by rfl) (hv : ∀ i ∈ own1, i ∈ ow := by decide) (ho : ∀ k ∈ ts, k ∈ ow := by decide) (ho1 : ∀ k ∈ ts1, k ∈ own1 := by decide) (hs : ∀ x, foldedSetIterable iter X.env x = pure x := by intro _; rfl) (hs1 : ∀ env x, foldedSetIterable iter1 env x = pure x := by intro _ _; rfl) :
    PD X (.ListComp elt [⟨tg, iter, ifs, 0⟩, ⟨tg1, iter1, ifs1, 0⟩] scope pos) (dComp fi (cStep2 g tt ow fi1 g1 tt1 own1 te) m) := by
  subst hw
  exact pd_comp2 hc hN hi ok hv hg ht hi1 hg1 ht1 he ho ho1 hs hs1
theorem pds_setCompq2 (own : List (Str × Nat)) {i : Nat} {y : Str} {py spos : Pos} (hc : X.calm = true) (hN : X.N.Nodup) (hy : X.N[i]? = some y) (hyl : X.env.scope.names.lookup y = some .local)
    (hsw : swapsWith (.ListComp elt [⟨tg, iter, ifs, 0⟩, ⟨tg1, iter1, ifs1, 0⟩] scope pos) (some (.Name y py)) spos.line X.env = pure true) (hi : PDI X tg iter fi) (ok : BlkOk X.N X.env.scope scope own)
    (hg : ∀ (s : Shared) (H : Hp) (C : Addr) (cl : List (Str × Addr)) (fp : List Addr), PDG (X.blk s H scope (compEnvC scope cl C X.env) fp) tg ts g) (ht : ∀ (s : Shared) (H : Hp) (C : Addr) (cl : List (Str × Addr)) (fp : List Addr), PDTs (X.blk s H scope (compEnvC scope cl C X.env) fp) ifs tt)
    (hi1 : ∀ (s : Shared) (H : Hp) (C : Addr) (cl : List (Str × Addr)) (fp : List Addr), PDI (X.blk s H scope (compEnvC scope cl C X.env) fp) tg1 iter1 fi1)
    (hg1 : ∀ (s : Shared) (H : Hp) (C : Addr) (cl : List (Str × Addr)) (fp : List Addr), PDG (X.blk s H scope (compEnvC scope cl C X.env) fp) tg1 ts1 g1) (ht1 : ∀ (s : Shared) (H : Hp) (C : Addr) (cl : List (Str × Addr)) (fp : List Addr), PDTs (X.blk s H scope (compEnvC scope cl C X.env) fp) ifs1 tt1)
    (he : ∀ (s : Shared) (H : Hp) (C : Addr) (cl : List (Str × Addr)) (fp : List Addr), PD (X.blk s H scope (compEnvC scope cl C X.env) fp) elt te) (hw : own.map (·.2) = ow := by rfl) (hv : ∀ i ∈ own1, i ∈ ow := by decide) (ho : ∀ k ∈ ts, k ∈ ow := by decide) (ho1 : ∀ k ∈ ts1, k ∈ own1 := by decide) (hs : ∀ x, foldedSetIterable iter X.env x = pure x := by intro _; rfl) (hs1 : ∀ env x, foldedSetIterable iter1 env x = pure x := by intro _ _; rfl) :
    PDS X W (.Assign [.Name y py] (.ListComp elt [⟨tg, iter, ifs, 0⟩, ⟨tg1, iter1, ifs1, 0⟩] scope pos) spos) (sAsg i (dComp fi (cStep2 g tt ow fi1 g1 tt1 own1 te) m)) := by
  subst hw
  exact pds_setComp2 hc hN hy hyl hsw hi ok hv hg ht hi1 hg1 ht1 he ho ho1 hs hs1
end

mutual
def valB (K : PySem.W.Frag) : Nat → Value → D → Bool
  | _, .none, .none => true
  | _, .bool b, .bool c => b == c
  | _, .int i _, .int j => decide (i = j)
  | _, .str x _, .str y => decide (x = y)
  | n + 1, .ref a, .tuple ds => (match K.lookup a with
    | some ⟨.type c, _, .seq its _, _⟩ => decide (c = "tuple") && (decide (its.size ≤ sizeLine) && valsB K n its.toList ds)
    | _ => false)
  | _, _, _ => false
def valsB (K : PySem.W.Frag) : Nat → List Value → List D → Bool
  | _, [], [] => true
  | n, u :: us, d :: ds => valB K n u d && valsB K n us ds
  | _, _, _ => false
end
mutual
theorem valB_ok {K : PySem.W.Frag} (n : Nat) (u : Value) (d : D) (h : valB K n u d = true) : ∃ v, RelV v u ∧ ∀ (c : Ct) (ι : List Addr) (H : Hp), c.K = K → IsD c ι H v d := by
  unfold valB at h
  split at h
  · exact ⟨.non, rfl, fun _ _ _ _ => .non⟩
  · rename_i b c
    have : b = c := by simpa using h
    subst this
    exact ⟨.bl b, rfl, fun _ _ _ _ => .bl b⟩
  · rename_i i t c
    have : i = c := by simpa using h
    subst this
    exact ⟨.int i, ⟨t, rfl⟩, fun _ _ _ _ => .int i⟩
  · rename_i i t c
    have : i = c := by simpa using h
    subst this
    exact ⟨.str i, ⟨t, rfl⟩, fun _ _ _ _ => .str i⟩
  · rename_i n a ds
    split at h
    · rename_i c od its k sl hl
      simp only [Bool.and_eq_true, decide_eq_true_eq] at h
      obtain ⟨rfl, h2, h3⟩ := h
      obtain ⟨vs, r, hd⟩ := valsB_ok n its.toList ds h3
      exact ⟨.ref a, rfl, fun c ι H hK => .tup (.inr ⟨_, its, k, by rw [hK]; exact hl, rfl, rfl, h2, r⟩) (hd c ι H hK)⟩
    · cases h
  · cases h
theorem valsB_ok {K : PySem.W.Frag} (n : Nat) (us : List Value) (ds : List D) (h : valsB K n us ds = true) : ∃ vs, Vals vs us ∧ ∀ (c : Ct) (ι : List Addr) (H : Hp), c.K = K → IsDs c ι H vs ds := by
  unfold valsB at h
  split at h
  · exact ⟨[], .nil, fun _ _ _ _ => .nil⟩
  · rename_i u us d ds
    rw [Bool.and_eq_true] at h
    obtain ⟨v, r, hd⟩ := valB_ok n u d h.1
    obtain ⟨vs, rs, hds⟩ := valsB_ok n us ds h.2
    exact ⟨v :: vs, .cons r rs, fun c ι H hK => .cons (hd c ι H hK) (hds c ι H hK)⟩
  · cases h
end
def glB (K : PySem.W.Frag) (x : Str) (d : D) : Bool := match PySem.W.nsIn K mainGlobals x with
  | some (some u) => valB K 9 u d
  | _ => false
theorem glD_of {K : PySem.W.Frag} {h : Heap} {mg : Str → Option Value} {x : Str} {d : D} (X : K.In h) (G : h.Ns mainGlobals mg) (e : glB K x d = true) : GlD K mg x d := by
  unfold glB at e
  split at e
  · rename_i u hu
    obtain ⟨v, r, hd⟩ := valB_ok 9 u d e
    exact ⟨v, u, PySem.W.mg_of X G hu, r, hd⟩
  · cases e
/-- the classes of exceptions, by the head -/
theorem excC_of {K : PySem.W.Frag} {h : Heap} {mg : Str → Option Value} {x : Str} (X : K.In h) (G : h.Ns mainGlobals mg) (g : (He.Fa.glo x).ok K = true) (e : (He.Fa.exc x).ok K = true) : ExcC K mg x :=
  let ⟨h1, h2, h3, h4⟩ := He.exc_ok e
  ⟨_, He.glo_ok X G g, h1, h2, h3, h4⟩
theorem exM_of {K : PySem.W.Frag} {h : Heap} {mg : Str → Option Value} {y : Str} {cm : List (Str × Bool)} (X : K.In h) (G : h.Ns mainGlobals mg) (hc : ∀ p ∈ cm, (He.Fa.glo p.1).ok K = true ∧ (He.Fa.exm p.1 y p.2).ok K = true) : ExM K mg (.ref (He.ga K y)) cm := by
  intro n b hl A hA
  have : ∀ l : List (Str × Bool), l.lookup n = some b → (n, b) ∈ l := by
    intro l
    induction l with
    | nil => intro h; cases h
    | cons p l ih =>
      intro h
      obtain ⟨q, c⟩ := p
      rw [List.lookup_cons] at h
      split at h
      · rename_i hq
        have := beq_iff_eq.mp hq
        subst this
        cases h
        exact List.mem_cons_self
      · exact List.mem_cons_of_mem _ (ih h)
  obtain ⟨h1, h2⟩ := hc _ (this cm hl)
  have e1 := He.glo_ok X G h1
  rw [hA] at e1
  cases e1
  exact He.exm_ok h2
def excIsB (K : PySem.W.Frag) (D : Addr) : Bool := decide (PySem.W.findIn K (.ref D) "__getattribute__" = some (some (.builtin "BaseException.__getattribute__"))) && (decide (PySem.W.findIn K (.ref D) "__getattr__" = some none) && (decide (PySem.W.subIn K (.ref D) (.type "BaseException") = some true) && (PySem.W.hasDictIn K D &&
  (decide (PySem.W.findIn K (.ref D) "__class__" = some (some (.builtin "object.__class__"))) && (decide (PySem.W.specialIn K (.builtin "object.__class__") "__get__" = some (some (.builtin "getset_descriptor.__get__"))) && (decide (PySem.W.takesIn K (.builtin "object.__class__") = some true) && decide (PySem.W.mroIn K D (.type "object") = some true)))))))
theorem excIsB_ok {K : PySem.W.Frag} {D : Addr} (h : excIsB K D = true) : L2.ExcC K D := by
  unfold excIsB at h
  simp only [Bool.and_eq_true, decide_eq_true_eq] at h
  obtain ⟨h1, h2, h3, h4, h5, h6, h7, h8⟩ := h
  exact ⟨h1, h2, h3, h4, h5, h6, h7, h8⟩
/-- the class n's instances: may be asked, and are of the class y or not -/
structure IsM (K : PySem.W.Frag) (mg : Str → Option Value) (y : Str) (im : List (Str × Bool)) : Prop where
  ex : ∃ Y, mg y = some (.ref Y) ∧ ∀ n b, im.lookup n = some b → ∀ A, mg n = some (.ref A) → L2.ExcC K A ∧ PySem.W.kitOne K (.ref A) (.ref Y) = some b
def isMB (K : PySem.W.Frag) (y : Str) (im : List (Str × Bool)) : Bool := im.all fun p => excIsB K (He.ga K p.1) && decide (PySem.W.kitOne K (.ref (He.ga K p.1)) (.ref (He.ga K y)) = some p.2)
theorem isM_of {K : PySem.W.Frag} {h : Heap} {mg : Str → Option Value} {y : Str} {im : List (Str × Bool)} (X : K.In h) (G : h.Ns mainGlobals mg) (hy : (He.Fa.glo y).ok K = true) (hg : ∀ p ∈ im, (He.Fa.glo p.1).ok K = true) (e : isMB K y im = true) : IsM K mg y im := by
  refine ⟨_, He.glo_ok X G hy, fun n b hl A hA => ?_⟩
  have : ∀ l : List (Str × Bool), l.lookup n = some b → (n, b) ∈ l := by
    intro l
    induction l with
    | nil => intro h; cases h
    | cons p l ih =>
      intro h
      obtain ⟨q, c⟩ := p
      rw [List.lookup_cons] at h
      split at h
      · rename_i hq
        have := beq_iff_eq.mp hq
        subst this
        cases h
        exact List.mem_cons_self
      · exact List.mem_cons_of_mem _ (ih h)
  have hm := this im hl
  have e1 := He.glo_ok X G (hg _ hm)
  rw [hA] at e1
  cases e1
  have e2 := List.all_eq_true.mp e _ hm
  simp only [Bool.and_eq_true, decide_eq_true_eq] at e2
  exact ⟨excIsB_ok e2.1, e2.2⟩
def sTryIs (fb : DS) (i : Nat) (cm im : List (Str × Bool)) : DS := fun Γ M => (fb Γ M).bind fun r => match r.1 with
  | .ex e => (match cm.lookup e.cls, e.fs with
    | some true, [] => if i < r.2.1.length then (im.lookup e.cls).map fun b => (.rt (.dat (.bool b)), r.2.1, r.2.2) else none
    | some false, _ => some r
    | _, _ => none)
  | _ => some r
section
variable {X : Cx} {W : WX} {x n y : Str} {c : Value} {i : Nat} {body : List Stmt} {np pos pos' p1 p2 p3 p4 p5 : Pos} {fb : DS} {cm im : List (Str × Bool)}
theorem pds_tryIs (hs : X.stack = X.env :: X.outer) (hf : X.env.frame = some X.env.locals) (hN : X.N.Nodup) (hi : X.N[i]? = some n) (hln : X.env.scope.names.lookup n = some .local) (hkn : X.env.kindOf n = some .local) (hc : Names X x c) (tk : Takes X W) (hcm : ExM X.K X.mg c cm) (him : IsM X.K X.mg y im)
    (hgi : Gl X "isinstance") (hmi : X.mg "isinstance" = none) (hgy : Gl X y)
    (hb : ∀ (W' : WX) (pn : List (Addr × Obj)) (xe : Value → Shared → Prop), Takes (X.tr pn xe) W' → PassesOwn (model X.prog X.w) X.A X.env xe → PDSs (X.tr pn xe) W' body fb)
    (hd : (n == ("__debug__" : Str)) = false := by decide) (hcd : (n == ("__classdict__" : Str)) = false := by decide) (hdy : (y == ("__debug__" : Str)) = false := by decide)
    (he : ∀ (a : Addr) (pn : List (Addr × Obj)), starEach [.Name n p1, .Name y p2] (X.suite a pn).env = (false, eval (.Name n p1) (X.suite a pn).env) :: starEach [.Name y p2] (X.suite a pn).env := by intro _ _; rfl)
    (he2 : ∀ (a : Addr) (pn : List (Addr × Obj)), starEach [.Name y p2] (X.suite a pn).env = (false, eval (.Name y p2) (X.suite a pn).env) :: starEach [] (X.suite a pn).env := by intro _ _; rfl)
    (hpl : ∀ (a : Addr) (pn : List (Addr × Obj)), (backTo p4 (starEach [.Name y p2] (X.suite a pn).env)).any (·.1) = false := by intro _ _; rfl) :
    PDS X W (.Try body [.ExceptHandler (some (.Name x np)) (some n) [.Return (some (.Call (.Name "isinstance" p3) [.Name n p1, .Name y p2] [] p4)) p5] pos'] [] [] pos) (sTryIs fb i cm im) := by
  obtain ⟨Y, gY, him⟩ := him.ex
  refine PS.weak (ps_try_as (i := i) (tb := fun W' => rdS (ctx X) W' fb) (ts := fun a cls d => fun E σ H => ∃ D, cls = .ref D ∧ d = none ∧ L2.ExcC X.K D ∧ tRet (tCB (rIsE X.K D a) (tCons (tVar i) (tCons (tC (.ref Y)) tNil))) E σ H) (Wout := W) hs hf hN hi hkn hc tk (fun W' pn xe t p => hb W' pn xe t p) fun a oe cls d pn hz hfd => ⟨fun pins s σ H E I h => ?_⟩) fun E σ H ⟨F, ι, Γ, M, fl, Γ', M', w, e, k⟩ => ?_
  · obtain ⟨D, rfl, rfl, hD, h⟩ := h
    exact (pss_one (ps_ret (pe_callB (call_isE (X := X) hD hz hfd) hgi hmi (by decide +kernel) (pa_cons (pe_var hi (.inl hln) hd hcd) (pa_cons (pe_glob hgy gY (show RelV (.ref Y) (.ref Y) from rfl) hdy) pa_nil (he2 _ _)) (he _ _)) (he := he _ _) (hpl := hpl _ _)))).run pins s σ H E I h
  · obtain ⟨⟨f1, Γ1, M1⟩, e1, e⟩ := Option.bind_eq_some_iff.mp e
    refine ⟨F, ι, Γ, M, f1, Γ1, M1, w, e1, fun ι1 σ1 H1 x1 w1 => ?_⟩
    cases f1 with
    | nx => cases e; exact k ι1 σ1 H1 x1 w1
    | rt s => cases e; exact k ι1 σ1 H1 x1 w1
    | bk => cases e; exact k ι1 σ1 H1 x1 w1
    | ct => cases e; exact k ι1 σ1 H1 x1 w1
    | ex er =>
      intro cls d ie
      simp only at e
      split at e
      · rename_i hl hfs
        split at e
        case isFalse => cases e
        rename_i hlt
        obtain ⟨b, e2, e⟩ := Option.map_eq_some_iff.mp e
        cases e
        obtain ⟨A, g1, rfl, hfl⟩ := ie
        have hdn : d = none := by
          rcases hfl with ⟨_, h⟩ | ⟨da, xs, h0, _⟩
          · exact h
          · exact absurd hfs h0
        subst hdn
        obtain ⟨hE, hk⟩ := him _ _ e2 A g1
        refine ⟨true, hcm _ _ hl A g1, fun _ a ha => ⟨A, rfl, rfl, hE, ?_⟩, fun z => nomatch z⟩
        refine ⟨.ref a, ?_, .ref Y, .ref Y, b, rfl, fun u h => h, hk, ?_⟩
        · exact List.getElem?_set_self (by rw [w1.len]; exact hlt)
        · exact k ι1 σ1 H1 x1 w1 _ (.dat (.bl b))
      · rename_i hl
        cases e
        have ie' := ie
        obtain ⟨A, g1, rfl, _⟩ := ie
        exact ⟨false, hcm _ _ hl A g1, (fun z => nomatch z), fun _ => k ι1 σ1 H1 x1 w1 (.ref A) d ie'⟩
      · cases e
end
end EL
namespace PySem
open Sem (wp)
theorem el_meets_enum1 {v : Value} {o : Obj} {H : Heap → Prop} (B : Begins v o H) :
    Meets (Builtin.«enumerate.__new__» ⟨[.type "enumerate", v], []⟩) (fun _ R s => H s.heap ∧
      R (.ok (.ret (.ref (s.heap.push o).objs.size))) { s with heap := (s.heap.push o).push { cls := .type "enumerate", data := .fields #[.none, .bool false, .ref s.heap.objs.size, rawInt 0, .none, .none] } }) :=
  .of_wp fun prog w A R s h => by
    obtain ⟨hp, g, d, tk, os⟩ := s; obtain ⟨h1, h⟩ := h
    have hsub := sub_enumerate
    have q1 : ∀ {A' : Around} {E : Value → Shared → Prop} {Q : Value → Shared → Prop}, Q (.ref hp.objs.size) ⟨hp.push o, g, d, tk, os⟩ → wpAny (model prog w) A' (pyIter v) Q E ⟨hp, g, d, tk, os⟩ :=
      fun q => B.iter prog w _ _ ⟨hp, g, d, tk, os⟩ _ h1 q
    wp_walk using q1
    refine wpAny_stack_any fun st => wpAny_pure ?_
    split
    · rename_i c _ _ _ _ _
      cases (c == Value.type "enumerate")
      · wp_walk using q1
        exact ⟨_, rfl, h⟩
      · wp_walk using q1
        exact ⟨_, rfl, h⟩
    · wp_walk using q1
      exact ⟨_, rfl, h⟩
section
variable {prog : Program} {w : World} {A : Around} {E : Value → Shared → Prop} {s : Shared}
theorem el_call_enum1 {v : Value} {o : Obj} {H : Heap → Prop} {Q : Value → Shared → Prop} (B : Begins v o H) (h1 : H s.heap)
    (h : ∀ h', IsEnum h' (s.heap.objs.size + 1) s.heap.objs.size 0 .none → h'.get? s.heap.objs.size = some o → h'.objs.size = s.heap.objs.size + 2 →
      (∀ b o, s.heap.get? b = some o → h'.get? b = some o) → Q (.ref (s.heap.objs.size + 1)) { s with heap := h' }) :
    wpAny (model prog w) A (call (.type "enumerate") [v]) Q E s := by
  refine callType_new F.called_enumerate (by decide) (F.typeCall_enumerate_1 _) (F.newCall_enumerate_1 _) (fun obj => F.args_object_init_2 obj _) F.entry_enumerate_new
    (el_meets_enum1 B) ⟨h1, ?_⟩
  have hz : (s.heap.push o).objs.size = s.heap.objs.size + 1 := Heap.size_push ..
  show _ ∧ _
  rw [hz]
  have he : IsEnum ((s.heap.push o).push { cls := .type "enumerate", data := .fields #[.none, .bool false, .ref s.heap.objs.size, rawInt 0, .none, .none] }) (s.heap.objs.size + 1) s.heap.objs.size 0 .none := by
    have := Heap.get?_push_size (s.heap.push o) (o := { cls := .type "enumerate", data := .fields #[.none, .bool false, .ref s.heap.objs.size, rawInt 0, .none, .none] }) rfl
    rw [hz] at this; exact this
  refine ⟨⟨_, he, rfl⟩, h _ he (Heap.get?_push_of_some _ (Heap.get?_push_size _ B.free)) (by rw [Heap.size_push, hz]) fun b o x => Heap.get?_push_of_some _ (Heap.get?_push_of_some _ x)⟩
end
end PySem
namespace EL
open PySem PySem.Spec PyProof.Rows L2
/-- the tuple at a, each item in a new pair -/
def IteT (K : PySem.W.Frag) (a : Addr) : It :=
  ⟨fun i H => ∃ (xs : List V) (x : V), SqT K H a xs ∧ xs[i]? = some x, fun i H v H' => ∃ T x, v = .ref T ∧ H T = none ∧ H' = upd H T (.tup [.int (i : Nat), x]) ∧ ∀ xs, SqT K H a xs → xs[i]? = some x, fun i H => ∃ xs : List V, SqT K H a xs ∧ xs.length ≤ i⟩
theorem enum_ne {h : Heap} {e it a : Addr} {i : Int} {old : Value} {items : Array Value} (he : IsEnum h e it i old) (ht : h.IsTuple a items) : e ≠ a := fun z => by
  obtain ⟨o, h1, h2, _⟩ := ht
  rw [← z, he] at h1
  cases h1
  exact absurd (Value.type.inj h2) (by decide)
theorem titer_ne {h : Heap} {it a : Addr} {i : Nat} {items : Array Value} (he : h.IsTupleIter it a i) (ht : h.IsTuple a items) : a ≠ it := fun z => by
  obtain ⟨o, h1, h2, _⟩ := ht
  obtain ⟨o', h1', h2', _⟩ := he
  rw [z, h1'] at h1
  cases h1
  rw [h2'] at h2
  exact absurd (Value.type.inj h2) (by decide)
theorem turn_enumT {P : Program} {w : World} {K : PySem.W.Frag} {elts : List Expr} {kk : Nat} {tpos : Pos} (a e it : Addr) :
    Turn P w K (.Tuple elts kk tpos) (IteT K a) [e, it] e (fun i h => (∃ old, IsEnum h e it ((i : Nat) : Int) old) ∧ h.IsTupleIter it a i ∧ e ≠ it) where
  mem := by simp
  obj := fun i h st b hb => by
    obtain ⟨⟨old, he⟩, ⟨o, ho, hc, hd⟩, _⟩ := st
    have e' : b = e ∨ b = it := by simpa using hb
    rcases e' with z | z
    · rw [z]; exact ⟨_, he, fun v q => nomatch q⟩
    · rw [z]; exact ⟨o, ho, fun v q => by rw [hd] at q; cases q⟩
  keep := fun i h h' st k => let ⟨⟨old, he⟩, hi, hne⟩ := st; ⟨⟨old, k e (by simp) _ he⟩, hi.at fun o q => k it (by simp) o q, hne⟩
  item := by
    intro X hP hw hK hc i pins s σ H E I hf st hg
    subst hP hw hK
    obtain ⟨⟨old, he⟩, hit, hne⟩ := st
    obtain ⟨xs, x, hq, hx⟩ := hg
    obtain ⟨its, rv, p, hz⟩ := I.tuple hq
    have p' : s.heap.IsTuple a its.toArray := p
    obtain ⟨u, hu, ru⟩ := rv.get hx
    have hel : e < s.heap.objs.size := Heap.lt_size he
    have hil : it < s.heap.objs.size := by obtain ⟨_, q, _⟩ := hit; exact Heap.lt_size q
    have hlt : i < its.toArray.size := by
      have := (List.getElem?_eq_some_iff.mp hu).1
      simpa using this
    have hef : e ∉ [it, a] := by
      intro hm
      rcases List.mem_cons.mp hm with z | z
      · exact hne z
      · exact enum_ne he p' (List.mem_singleton.mp z)
    refine wpAny_pyNext_enum_itemD (Draws.tuple (A := X.A.in1) (by have := I.ok.hd hc; exact this) it a (titer_ne hit p') its.toArray) he ⟨hit, p'⟩ hlt hne hef fun u' h' tk hP ho hit' hT hsz hk => ?_
    have hu' : u' = u := by
      have h1 : its.toArray[i]? = some u' := hP
      have h2 : its.toArray[i]? = some u := by simpa using hu
      rw [h2] at h1
      exact (Option.some.inj h1).symm
    subst hu'
    refine ⟨_, rfl, wpAny_letOwnedTupleGo_enum (s := { s with heap := h', toks := tk + 1 }) ho fun h'' he' sb => ?_⟩
    have hT2 : h''.get? s.heap.objs.size = some { cls := .type "tuple", data := .seq #[.int i tk, u'] } := (sb.2 _ (Nat.ne_of_gt hel)).trans hT
    have new : ObjOk X.prog X.w (upd H s.heap.objs.size (.tup [.int (i : Nat), x])) h'' s.heap.objs.size (.tup [.int (i : Nat), x]) :=
      ⟨by show 2 ≤ sizeLine; decide, [.int i tk, u'], .cons ⟨_, rfl⟩ (.cons ru .nil), ⟨_, hT2, rfl, _, rfl⟩⟩
    have I1 : Inv X pins σ (upd H s.heap.objs.size (.tup [.int (i : Nat), x])) { s with heap := h'', toks := tk + 1 } :=
      I.turnedNew (ch := [e, it]) (fun b ob hb q => (sb.2 b (fun z => hb (by simp [z]))).trans (hk b ob (fun z => hb (by simp [z])) (fun z => hb (by simp [z])) q)) hf (Nat.le_refl _) new
    refine ⟨.ref s.heap.objs.size, _, I1, rfl, ⟨_, x, rfl, I.hok.fresh (Nat.le_refl _), rfl, fun ys hy => by rw [I.tuple_inj hy hq]; exact hx⟩, ⟨⟨u', ?_⟩, hit'.1.at fun o q => (sb.2 it (Ne.symm hne)).trans q, hne⟩, fun b hb => ?_⟩
    · have e1 : ((i + 1 : Nat) : Int) = (i : Int) + 1 := by omega
      rw [e1]; exact he'
    · have hb' : b < s.heap.objs.size := by
        have e' : b = e ∨ b = it := by simpa using hb
        rcases e' with z | z
        · rw [z]; exact hel
        · rw [z]; exact hil
      rw [upd_ne (Nat.ne_of_lt hb')]
      exact (hf b hb).1
  done := by
    intro X hP hw hK hc i pins s σ H E I hf st hg
    subst hP hw hK
    obtain ⟨⟨old, he⟩, hit, hne⟩ := st
    obtain ⟨xs, hq, hx⟩ := hg
    obtain ⟨its, rv, p, hz⟩ := I.tuple hq
    have p' : s.heap.IsTuple a its.toArray := p
    obtain ⟨f0, f1, f2, f3, f4, f5⟩ := hf it (by simp)
    have hl := rv.length
    have hend : its.toArray[i]? = none := by simp; omega
    have hT : s.TypeIs (.ref e) "enumerate" := ⟨_, he, rfl⟩
    unfold pyNext
    refine wpAny_bind (wpAny_attempt (wpAny_callSpecial?_slot (name := Str.ofString "__next__") hT F.slot_enumerate_next (wpAny_call_entry F.slot_enumerate_next hT F.entry_enumerate_next ?_ (F.args_enumerate_next_1 _))))
    show wpAny _ _ (field (.ref e) 2 >>= _) _ _ _
    refine wpAny_bind (wpAny_field he rfl (x := .ref it) rfl (wpAny_bind (wpAny_nextOf_tuple_end (by have := I.ok.hd hc; exact this) hit p' hend fun h' x eb ⟨o, ho, hcls⟩ => ?_)))
    refine wpAny_bind (wpAny_isInstance (T := "StopIteration") (b := true) ⟨o, ho, hcls⟩ isSubtype_stop (wpAny_pure ⟨rfl, ?_⟩))
    exact I.turned (t' := s.toks) (fun b o hb q => eb b o hb q) f0 f1 f3 f4 f5
  self := fun A i s Q E st h => let ⟨⟨_, he⟩, _⟩ := st; wpAny_pyIter_enum he h

def iEnumT (K : PySem.W.Frag) (ta : TA) : TI := fun σ H R => ta σ H fun vs H1 => ∃ a xs, vs = [.ref a] ∧ ((SqL K H1 a xs ∧ R (Ite K a) H1) ∨ (SqT K H1 a xs ∧ R (IteT K a) H1))
theorem pi_enumA {X : Cx} {e : Expr} {ta : TA} {p pos tpos : Pos} {elts : List Expr} {kk : Nat} (hg : Gl X "enumerate") (hm : X.mg "enumerate" = none) (ha : PA X [e] ta) (hs : starEach [e] X.env = [(false, eval e X.env)] := by rfl) :
    PI X (.Tuple elts kk tpos) (.Call (.Name "enumerate" p) [e] [] pos) (iEnumT X.K ta) := by
  refine ⟨fun pins s σ H R I h => ?_⟩
  refine Call_ (ld_blt I hg hm boot_enumerate (PyProof.Rows.callWith_type1 (thn (ha.run pos pins s σ H _ I h) fun us s1 ⟨vs, H1, I1, r1, q1⟩ => ?_) hs rfl))
  obtain ⟨a, xs, rfl, hq⟩ := q1
  obtain ⟨u, rfl, r⟩ := vals1 r1
  cases r
  have fp : ∀ (h' : Heap) (hsz : h'.objs.size = s1.heap.objs.size + 2) (hk : ∀ b o, s1.heap.get? b = some o → h'.get? b = some o), Inv X pins σ H1 { s1 with heap := h' } ∧ ∀ b ∈ [s1.heap.objs.size + 1, s1.heap.objs.size], FpOk X pins H1 b := fun h' hsz hk => by
    refine ⟨I1.kept (t' := s1.toks) hk, fun b hb => ?_⟩
    have hle : s1.heap.objs.size ≤ b := by
      rcases List.mem_cons.mp hb with z | z
      · omega
      · have := List.mem_singleton.mp z; omega
    exact I1.fpOk hle (I1.hok.fresh hle)
  rcases hq with ⟨hq, q⟩ | ⟨hq, q⟩
  · obtain ⟨its, rv, p', hz⟩ := I1.list hq
    refine call_enumerate_list p'.isList fun h' he hit hsz hk => wpAny_pyIter_enum he ?_
    obtain ⟨I2, f⟩ := fp h' hsz hk
    exact ⟨s1.heap.objs.size + 1, [s1.heap.objs.size + 1, s1.heap.objs.size], _, _, H1, rfl, I2, turn_enum a (s1.heap.objs.size + 1) s1.heap.objs.size, ⟨⟨.none, he⟩, hit, Nat.succ_ne_self _⟩, f, q⟩
  · obtain ⟨its, rv, p', hz⟩ := I1.tuple hq
    have p2 : s1.heap.IsTuple a its.toArray := p'
    refine el_call_enum1 (begins_tuple a its.toArray) p2 fun h' he ho hsz hk => wpAny_pyIter_enum he ?_
    obtain ⟨I2, f⟩ := fp h' hsz hk
    exact ⟨s1.heap.objs.size + 1, [s1.heap.objs.size + 1, s1.heap.objs.size], _, _, H1, rfl, I2, turn_enumT a (s1.heap.objs.size + 1) s1.heap.objs.size, ⟨⟨.none, he⟩, ⟨_, ho, rfl, rfl⟩, Nat.succ_ne_self _⟩, f, q⟩
theorem jok_enumT {c : Ct} {F0 ι0 : List Addr} {H0 : Hp} {a : Addr} {f : DIt} (h1 : LV c F0 ι0 H0 false a f) : JOk c F0 ι0 H0 (IteT c.K a) (itE f) := fun F ι H M i gg x r => by
  have key : ∀ o, itE f M i = some o → (o = none ∧ f M i = some none) ∨ ∃ d, f M i = some (some (.dat d)) ∧ o = some (.dat (.tuple [.int (i : Nat), d])) := fun o e => by
    unfold itE at e
    split at e
    · cases e; exact .inr ⟨_, by assumption, rfl⟩
    · cases e; exact .inl ⟨rfl, by assumption⟩
    · cases e
  refine ⟨fun e => ?_, fun d e => ?_⟩
  · rcases key _ e with ⟨_, e1⟩ | ⟨_, _, e1⟩
    · obtain ⟨xs, s1, t1, _⟩ := h1 F ι H M i _ gg x r e1
      exact ⟨xs, s1, t1 rfl⟩
    · cases e1
  · rcases key _ e with ⟨e1, _⟩ | ⟨d', e1, e2⟩
    · cases e1
    cases e2
    obtain ⟨xs, s1, _, g1⟩ := h1 F ι H M i _ gg x r e1
    obtain ⟨v1, k1, w1⟩ := g1 _ rfl
    refine ⟨⟨xs, v1, s1, k1⟩, fun y H' ⟨T, y1, q1, q2, q3, q4⟩ => ?_⟩
    subst q1
    subst q3
    have z1 := q4 xs s1
    rw [k1] at z1
    cases z1
    cases w1 with
    | dat w1 =>
    have x1 : Ext ι H ι (upd H T (.tup [.int (i : Nat), v1])) := .new q2
    exact ⟨x1, r.new q2, .dat (.tup (.inl ⟨upd_same, r.nin q2⟩) (.cons (.int _) (.cons (w1.mono x1) .nil)))⟩
def iEn (fr : DA) : DI := fun Γ M => (fr Γ M).bind fun p => match p.1 with
  | [a] => (zSide a p.2).map fun x => ((itE x.1.1, x.1.2), p.2)
  | _ => none
theorem pdi_en {X : Cx} {e : Expr} {fr : DA} {p pos tpos : Pos} {elts : List Expr} {kk : Nat} (hg : Gl X "enumerate") (hm : X.mg "enumerate" = none) (ha : PDA X [e] fr) (hs : starEach [e] X.env = [(false, eval e X.env)] := by rfl) :
    PDI X (.Tuple elts kk tpos) (.Call (.Name "enumerate" p) [e] [] pos) (iEn fr) :=
  PI.weak (pi_enumA hg hm ha hs) fun σ H R ⟨F, ι, Γ, M, it, M', w, e, k⟩ => by
    obtain ⟨⟨ss, M1⟩, e1, e⟩ := Option.bind_eq_some_iff.mp e
    refine ⟨F, ι, Γ, M, ss, M1, w, e1, fun vs ι1 H1 x1 r1 i1 => ?_⟩
    simp only at e
    split at e
    case h_2 => cases e
    obtain ⟨x, ex, e⟩ := Option.map_eq_some_iff.mp e
    cases e
    cases i1 with
    | cons i1 t1 =>
      cases t1
      obtain ⟨a, rfl, ⟨xs, hx⟩, lx⟩ := zSide_ok (c := ctx X) r1 i1 ex
      cases hx2 : x.2 with
      | true =>
        rw [hx2] at hx lx
        exact ⟨a, xs, rfl, .inl ⟨hx, k _ ι1 H1 x1 r1 (jok_enum lx)⟩⟩
      | false =>
        rw [hx2] at hx lx
        exact ⟨a, xs, rfl, .inr ⟨hx, k _ ι1 H1 x1 r1 (jok_enumT lx)⟩⟩
theorem allp_cons {α : Type} {P : α → Prop} {x : α} {l : List α} (h : P x) (t : ∀ p ∈ l, P p) : ∀ p ∈ x :: l, P p := fun p hp => (List.mem_cons.mp hp).elim (fun e => e ▸ h) (t p)
end EL
namespace EL
open PySem PySem.Spec PyProof.Rows L2

section
variable {i j : Int} {d e : D} {Γ : Ga} {M : Sto}
@[simp] theorem oAdd_i : oAdd (.int i) (.int j) = some (.dat (.int (i + j))) := rfl
@[simp] theorem oSub_i : oSub (.int i) (.int j) = some (.dat (.int (i - j))) := rfl
@[simp] theorem oIAdd_i : oIAdd (.int i) (.int j) = some (.dat (.int (i + j))) := rfl
@[simp] theorem oNeg_i : oNeg (.int i) = some (.dat (.int (-i))) := rfl
@[simp] theorem oMul_i (h : okMul i j = true) : oMul (.int i) (.int j) = some (.dat (.int (i * j))) := by show (if okMul i j = true then _ else _) = _; rw [if_pos h]
@[simp] theorem oDiv_i (h : 0 < j) (h2 : j ≤ 1000000000000000000000000000000) : oDiv (.int i) (.int j) = some (.dat (.int (i.fdiv j))) := by
  have hc : CDivW i j := wide_div (b := 100) h (Nat.lt_of_le_of_lt (show j.natAbs ≤ 1000000000000000000000000000000 by omega) (by decide)) (by decide) (by decide)
  show (if ((decide (j ≠ 0) && decide (j.natAbs < 1073741824)) || (decide (0 < j) && decide (j.natAbs.log2 < 9000))) = true then _ else _) = _
  rw [if_pos (by rw [Bool.or_eq_true]; right; rw [decide_eq_true hc.1, decide_eq_true hc.2]; rfl)]
@[simp] theorem oMod_i (h : j ≠ 0) : oMod (.int i) (.int j) = some (.dat (.int (i.fmod j))) := by
  unfold oMod gI
  simp [h]
theorem okCmp_i : okCmp (.int i) (.int j) = true := by
  unfold okCmp
  simp [PySem.W.alike, PyData.plain, PyData.depth]
@[simp] theorem oLt_i : oLt (.int i) (.int j) = some (.dat (.bool (decide (i < j)))) := by unfold oLt; rw [if_pos okCmp_i, PySem.W.dataLt_int]
@[simp] theorem oGt_i : oGt (.int i) (.int j) = some (.dat (.bool (decide (j < i)))) := by unfold oGt; rw [if_pos okCmp_i, PySem.W.dataLt_int]
@[simp] theorem oLe_i : oLe (.int i) (.int j) = some (.dat (.bool (decide (i ≤ j)))) := by unfold oLe; rw [if_pos okCmp_i, PySem.W.dataLt_int, PySem.W.not_lt_int]
@[simp] theorem oGe_i : oGe (.int i) (.int j) = some (.dat (.bool (decide (j ≤ i)))) := by unfold oGe; rw [if_pos okCmp_i, PySem.W.dataLt_int, PySem.W.not_lt_int]
theorem okEq_i (h : d.plain = true) : okEq d (.int j) = true := by
  unfold okEq
  simp [PyData.plain, PyData.depth, h]
@[simp] theorem oEq_i : oEq (.int i) (.int j) = some (.dat (.bool (i == j))) := by unfold oEq; rw [if_pos (okEq_i rfl)]; rfl
@[simp] theorem oNe_i : oNe (.int i) (.int j) = some (.dat (.bool (i != j))) := by unfold oNe; rw [if_pos (okEq_i rfl)]; rfl
end

section
variable {N k n : Nat} {body f g : DS} {ss : List SV} {fa fb fc fe fv fo fi : DE} {fr : DA} {ft ta tb : DT} {i j : Nat} {d d' e : D} {Γ : Ga} {M M' : Sto} {gg g' : D → D → Option OR} {g1 : D → Option OR} {gl : List D → Option OR} {s t : SV} {x y : Int} {gf : FnT} {b : Bool} {xs ys ds : List D} {mm xx ww : Bool} {c : Cell} {er : Er}
@[simp] theorem dFun_e : dFun N body xx ww ss M = (body (ss.map some ++ List.replicate (N - ss.length) none) M).bind (fnOut xx ww M.length) := rfl
@[simp] theorem cutM_zero : cutM 0 M = some [] := rfl
@[simp] theorem cutM_succ : cutM (k + 1) (.fl d :: M) = (cutM k M).map (.fl d :: ·) := rfl
@[simp] theorem fnOut_dat : fnOut xx false k (.rt (.dat d), Γ, M) = (cutM k M).map fun M' => (.ok (.dat d), M') := rfl
@[simp] theorem fnOut_ptr : fnOut xx false k (.rt (.ptr n), Γ, M) = if k ≤ n then (flD M[n]?).bind fun d => (cutM k M).map fun M' => (.ok (.dat d), M') else none := rfl
@[simp] theorem fnOut_nx : fnOut xx false k (.nx, Γ, M) = (cutM k M).map fun M' => (.ok (.dat .none), M') := rfl
@[simp] theorem fnOut_rtW : fnOut xx true k (.rt s, Γ, M) = some (.ok s, M) := rfl
@[simp] theorem fnOut_nxW : fnOut xx true k (.nx, Γ, M) = some (.ok (.dat .none), M) := rfl
@[simp] theorem fnOut_ex : fnOut true false k (.ex er, Γ, M) = (cutM k M).map fun M' => (.er er, M') := rfl
@[simp] theorem fnOut_exW : fnOut true true k (.ex er, Γ, M) = some (.er er, M) := rfl
@[simp] theorem flD_fl : flD (some (.fl d)) = some d := rfl
@[simp] theorem flD_none : flD none = none := rfl
def sqk (g : DS) (r : Fl × Ga × Sto) : Option (Fl × Ga × Sto) := match r.1 with
  | .nx => g r.2.1 r.2.2
  | fl => some (fl, r.2.1, r.2.2)
@[simp] theorem sSeq_e : sSeq f g Γ M = (f Γ M).bind (sqk g) := rfl
@[simp] theorem sqk_nx : sqk g (.nx, Γ, M) = g Γ M := rfl
@[simp] theorem sqk_rt : sqk g (.rt s, Γ, M) = some (.rt s, Γ, M) := rfl
@[simp] theorem sqk_bk : sqk g (.bk, Γ, M) = some (.bk, Γ, M) := rfl
@[simp] theorem sqk_ct : sqk g (.ct, Γ, M) = some (.ct, Γ, M) := rfl
@[simp] theorem sqk_ex : sqk g (.ex er, Γ, M) = some (.ex er, Γ, M) := rfl
@[simp] theorem sAsg_e : sAsg i fe Γ M = (fe Γ M).bind fun p => some (.nx, Γ.set i (some p.1), p.2) := rfl
@[simp] theorem sRet_e : sRet fe Γ M = (fe Γ M).bind fun p => some (.rt p.1, Γ, p.2) := rfl
@[simp] theorem sRetN_e : sRetN Γ M = some (.rt (.dat .none), Γ, M) := rfl
@[simp] theorem sNil_e : sNil Γ M = some (.nx, Γ, M) := rfl
@[simp] theorem sBk_e : sBk Γ M = some (.bk, Γ, M) := rfl
@[simp] theorem sCt_e : sCt Γ M = some (.ct, Γ, M) := rfl
@[simp] theorem sEx_e : sEx er Γ M = some (.ex er, Γ, M) := rfl
@[simp] theorem sIf_e : sIf ft f g Γ M = (ft Γ M).bind fun p => if p.1 = true then f Γ p.2 else g Γ p.2 := rfl
@[simp] theorem sExpr_e : sExpr fe Γ M = (fe Γ M).bind fun p => some (.nx, Γ, p.2) := rfl
def tpk (g : DG) (Γ : Ga) (p : SV × Sto) : Option (Fl × Ga × Sto) := (g p.1 p.2 Γ).map fun Γ' => (.nx, Γ', p.2)
@[simp] theorem sTup_e {g : DG} : sTup fe g Γ M = (fe Γ M).bind (tpk g Γ) := rfl
@[simp] theorem tpk_e {g : DG} : tpk g Γ (s, M) = (g s M Γ).map fun Γ' => (.nx, Γ', M) := rfl
def subk (Γ : Ga) (v o : SV) (p : SV × Sto) : Option (Fl × Ga × Sto) := match o, p.1 with
  | .ptr n, .dat i => (p.2[n]?).bind fun d => (oSet d i v).map fun d' => (.nx, Γ, p.2.set n d')
  | _, _ => none
@[simp] theorem sSub_e : sSub fv fo fi Γ M = (fv Γ M).bind fun pv => (fo Γ pv.2).bind fun po => (fi Γ po.2).bind (subk Γ pv.1 po.1) := by
  rfl
@[simp] theorem subk_e : subk Γ s (.ptr n) (.dat d, M) = (M[n]?).bind fun c => (oSet c d s).map fun d' => (.nx, Γ, M.set n d') := rfl
@[simp] theorem dC_e : dC d Γ M = some (.dat d, M) := rfl
def vark (M : Sto) (o : Option (Option SV)) : Option (SV × Sto) := match o with
  | some (some s) => some (s, M)
  | _ => none
@[simp] theorem dVar_e : dVar i Γ M = vark M Γ[i]? := rfl
@[simp] theorem vark_e : vark M (some (some s)) = some (s, M) := rfl
@[simp] theorem dBin_e : dBin gg fa fb mm Γ M = (fa Γ M).bind fun p => (fb Γ p.2).bind fun q => (val p.1 q.2).bind fun d => (val q.1 q.2).bind fun e => (gg d e).map fun o => o.out mm q.2 := rfl
@[simp] theorem dUn_e : dUn g1 fa mm Γ M = (fa Γ M).bind fun p => (val p.1 p.2).bind fun d => (g1 d).map fun o => o.out mm p.2 := rfl
@[simp] theorem dNil_e : dNil Γ M = some ([], M) := rfl
@[simp] theorem dCons_e : dCons fa fr Γ M = (fa Γ M).bind fun p => (fr Γ p.2).bind fun q => some (p.1 :: q.1, q.2) := rfl
@[simp] theorem dCB_e : dCB gl fr mm Γ M = (fr Γ M).bind fun p => (vals p.1 p.2).bind fun ds => (gl ds).map fun o => o.out mm p.2 := rfl
@[simp] theorem tNot_e : tNot_ ta Γ M = (ta Γ M).bind fun p => some (!p.1, p.2) := rfl
@[simp] theorem tAnd_e : tAnd_ ta tb Γ M = (ta Γ M).bind fun p => if p.1 = true then tb Γ p.2 else some (false, p.2) := rfl
@[simp] theorem tOr_e : tOr_ ta tb Γ M = (ta Γ M).bind fun p => if p.1 = true then some (true, p.2) else tb Γ p.2 := rfl
@[simp] theorem tTru_e : tTru fa Γ M = (fa Γ M).bind fun p => (truS p.1 p.2).map fun b => (b, p.2) := rfl
def truC (c : Option Cell) : Option Bool := match c with
  | some (.fl d) => truD d
  | some (.ls ss) => some (!ss.isEmpty)
  | some (.dc kvs) => some (!kvs.isEmpty)
  | _ => none
@[simp] theorem truS_dat : truS (.dat d) M = truD d := rfl
@[simp] theorem truS_ptr : truS (.ptr n) M = truC M[n]? := rfl
@[simp] theorem truC_fl : truC (some (.fl d)) = truD d := rfl
@[simp] theorem truC_ls : truC (some (.ls ss)) = some (!ss.isEmpty) := rfl
def tvk (p : SV × Sto) : Option (Bool × Sto) := match p.1 with
  | .dat (.bool b) => some (b, p.2)
  | _ => none
@[simp] theorem tVal_e : tVal fa Γ M = (fa Γ M).bind tvk := rfl
@[simp] theorem tvk_e : tvk (.dat (.bool b), M) = some (b, M) := rfl
@[simp] theorem val_dat : val (.dat d) M = some d := rfl
@[simp] theorem val_ptr : val (.ptr i) M = flD M[i]? := rfl
@[simp] theorem vals_nil : vals [] M = some [] := rfl
@[simp] theorem vals_cons : vals (s :: ss) M = (val s M).bind fun d => (vals ss M).map (d :: ·) := rfl
@[simp] theorem dats_nil : dats [] = some [] := rfl
@[simp] theorem dats_dat : dats (.dat d :: ss) = (dats ss).map (d :: ·) := rfl
@[simp] theorem dats_map_e : dats (ds.map .dat) = some ds := by
  induction ds with
  | nil => rfl
  | cons d ds ih => rw [List.map_cons, dats_dat, ih]; rfl
@[simp] theorem out_dat : OR.out (.dat d) mm M = (.dat d, M) := rfl
@[simp] theorem out_new : OR.out (.new d) true M = (.ptr M.length, M ++ [.fl d]) := rfl
@[simp] theorem out_newD : OR.out (.new d) false M = (.dat d, M) := rfl
def ixC (c : Option Cell) (e : D) : Option SV := match c with
  | some (.fl d) => ixD d e
  | some (.ls ss) => (match e with
    | .int i => atI ss i
    | _ => none)
  | some (.dc kvs) => (keyK e).bind fun k => tLook kvs k
  | _ => none
@[simp] theorem dIx_e : dIx fa fb Γ M = (fa Γ M).bind fun p => (fb Γ p.2).bind fun q => (ixS p.1 q.1 q.2).map fun s => (s, q.2) := rfl
@[simp] theorem ixS_dat : ixS (.dat d) (.dat e) M = ixD d e := rfl
@[simp] theorem ixS_ptr : ixS (.ptr n) (.dat e) M = ixC M[n]? e := rfl
@[simp] theorem ixC_fl : ixC (some (.fl d)) e = ixD d e := rfl
@[simp] theorem ixC_ls : ixC (some (.ls ss)) (.int x) = atI ss x := rfl
@[simp] theorem ixD_list : ixD (.list xs) (.int x) = (atI xs x).map .dat := by
  unfold ixD
  show (match (atI xs x).map OR.dat with | some (.dat x) => some (SV.dat x) | _ => none) = _
  cases atI xs x <;> rfl
@[simp] theorem ixD_tup : ixD (.tuple xs) (.int x) = (atI xs x).map .dat := by
  unfold ixD
  show (match (atI xs x).map OR.dat with | some (.dat x) => some (SV.dat x) | _ => none) = _
  cases atI xs x <;> rfl
theorem ixD_dict {kvs : List (D × D)} (h : dKey kvs d = true) : ixD (.dict kvs) d = (dLook (dRest kvs) d).map .dat := by
  unfold ixD oIx
  simp only [h, if_true]
  cases dLook (dRest kvs) d <;> rfl
def lenC (c : Option Cell) : Option Int := match c with
  | some (.fl d) => lenD d
  | some (.ls ss) => some ss.length
  | some (.dc kvs) => some kvs.length
  | _ => none
@[simp] theorem dLen_e : dLen fa Γ M = (fa Γ M).bind fun p => (lenS p.1 p.2).map fun n => (.dat (.int n), p.2) := rfl
@[simp] theorem lenS_dat : lenS (.dat d) M = lenD d := rfl
@[simp] theorem lenS_ptr : lenS (.ptr n) M = lenC M[n]? := rfl
@[simp] theorem lenC_fl : lenC (some (.fl d)) = lenD d := rfl
@[simp] theorem lenC_ls : lenC (some (.ls ss)) = some (ss.length : Int) := rfl
@[simp] theorem lenD_list : lenD (.list xs) = some (xs.length : Int) := rfl
@[simp] theorem lenD_tup : lenD (.tuple xs) = some (xs.length : Int) := rfl
@[simp] theorem bInt_i : bInt [.int x] = some (.dat (.int x)) := rfl
@[simp] theorem bAbs_i : bAbs [.int x] = some (.dat (.int (if x < 0 then -x else x))) := rfl
@[simp] theorem ixN_nn {n : Nat} (h : 0 ≤ x) (h2 : x < n) : ixN n x = some x.toNat := by
  unfold ixN
  rw [if_pos h, if_pos h2]
@[simp] theorem atI_nn {α : Type} {xs : List α} (h : 0 ≤ x) : atI xs x = xs[x.toNat]? := by
  unfold atI
  by_cases h2 : x < xs.length
  · rw [ixN_nn h h2]; rfl
  · unfold ixN
    rw [if_pos h, if_neg h2, List.getElem?_eq_none (by omega)]; rfl
@[simp] theorem oSet_list : oSet (.fl (.list xs)) (.int x) (.dat d) = (ixN xs.length x).map fun j => .fl (.list (xs.set j d)) := rfl
@[simp] theorem oSet_ls : oSet (.ls ss) (.int x) s = (ixN ss.length x).map fun j => .ls (ss.set j s) := by
  cases s <;> rfl
@[simp] theorem oPow_10_18 : oPow (.int 10) (.int 18) = some (.dat (.int 1000000000000000000)) := rfl
@[simp] theorem okMul_r {i j : Int} (h : -(2 ^ 64) < j) (h2 : j < 2 ^ 64) : okMul i j = true := by
  unfold okMul
  rw [decide_eq_true (show -(2 ^ 64) < j ∧ j < 2 ^ 64 from ⟨h, h2⟩), Bool.or_true]
theorem atI_nat {α : Type} {xs : List α} {n : Nat} {v : α} (h : xs[n]? = some v) : atI xs (n : Int) = some v := by
  have := (List.getElem?_eq_some_iff.mp h).1
  unfold atI ixN
  rw [if_pos (by omega), if_pos (by omega)]
  exact h
def tupk (p : List SV × Sto) : Option (SV × Sto) := (dats p.1).bind fun ds => if ds.length ≤ LIM then some (.dat (.tuple ds), p.2) else none
def lstk (p : List SV × Sto) : Option (SV × Sto) := (dats p.1).bind fun ds => if ds.length ≤ LIM then some (.dat (.list ds), p.2) else none
def lspk (p : List SV × Sto) : Option (SV × Sto) := if p.1.length ≤ LIM then some (.ptr p.2.length, p.2 ++ [lstCell p.1]) else none
@[simp] theorem dTup_e : dTup fr Γ M = (fr Γ M).bind tupk := rfl
@[simp] theorem dLst_e : dLst fr Γ M = (fr Γ M).bind lstk := rfl
@[simp] theorem dLstP_e : dLstP fr Γ M = (fr Γ M).bind lspk := rfl
@[simp] theorem tupk_e : tupk (ss, M) = (dats ss).bind fun ds => if ds.length ≤ LIM then some (.dat (.tuple ds), M) else none := rfl
@[simp] theorem lstk_e : lstk (ss, M) = (dats ss).bind fun ds => if ds.length ≤ LIM then some (.dat (.list ds), M) else none := rfl
@[simp] theorem lspk_e : lspk (ss, M) = if ss.length ≤ LIM then some (.ptr M.length, M ++ [lstCell ss]) else none := rfl
@[simp] theorem lstCell_nil : lstCell [] = .fl (.list []) := rfl
theorem lstCell_dats (h : dats ss = some ds) : lstCell ss = .fl (.list ds) := by
  unfold lstCell
  rw [h]
@[simp] theorem lstCell_map : lstCell (ds.map .dat) = .fl (.list ds) := lstCell_dats dats_map_e
theorem lim_e : LIM = 10000000 := by decide
def andk (fb : DE) (Γ : Ga) (p : SV × Sto) : Option (SV × Sto) := match p.1 with
  | .dat (.bool true) => fb Γ p.2
  | .dat (.bool false) => some (.dat (.bool false), p.2)
  | _ => none
def ork (fb : DE) (Γ : Ga) (p : SV × Sto) : Option (SV × Sto) := match p.1 with
  | .dat (.bool false) => fb Γ p.2
  | .dat (.bool true) => some (.dat (.bool true), p.2)
  | _ => none
@[simp] theorem dAnd_e : dAnd fa fb Γ M = (fa Γ M).bind (andk fb Γ) := rfl
@[simp] theorem dOr_e : dOr fa fb Γ M = (fa Γ M).bind (ork fb Γ) := rfl
@[simp] theorem andk_e : andk fb Γ (.dat (.bool b), M) = if b = true then fb Γ M else some (.dat (.bool false), M) := by cases b <;> rfl
@[simp] theorem ork_e : ork fb Γ (.dat (.bool b), M) = if b = true then some (.dat (.bool true), M) else fb Γ M := by cases b <;> rfl
@[simp] theorem dIf_e : dIf ft fa fb Γ M = (ft Γ M).bind fun p => if p.1 = true then fa Γ p.2 else fb Γ p.2 := rfl
def chk (g' : D → D → Option OR) (fc : DE) (q : SV) (Γ : Ga) (M : Sto) (o : OR) : Option (SV × Sto) := match o with
  | .dat (.bool true) => (fc Γ M).bind fun r => (val q r.2).bind fun e' => (val r.1 r.2).bind fun f => (g' e' f).map fun o' => o'.out false r.2
  | .dat (.bool false) => some (.dat (.bool false), M)
  | _ => none
@[simp] theorem dChain_e : dChain gg g' fa fb fc Γ M = (fa Γ M).bind fun p => (fb Γ p.2).bind fun q => (val p.1 q.2).bind fun d => (val q.1 q.2).bind fun e => (gg d e).bind (chk g' fc q.1 Γ q.2) := rfl
@[simp] theorem chk_e : chk g' fc s Γ M (.dat (.bool b)) = if b = true then (fc Γ M).bind fun r => (val s r.2).bind fun e' => (val r.1 r.2).bind fun f => (g' e' f).map fun o' => o'.out false r.2 else some (.dat (.bool false), M) := by cases b <;> rfl
@[simp] theorem dSl_e {fl fh : DO} : dSl fa fl fh mm Γ M = (fa Γ M).bind fun p => (fl Γ p.2).bind fun l => (fh Γ l.2).bind fun h => (val p.1 h.2).bind fun d => (sCut d l.1 h.1).map fun o => o.out mm h.2 := rfl
@[simp] theorem oN_e : oN Γ M = some (none, M) := rfl
def osk (p : SV × Sto) : Option (Option Int × Sto) := match p.1 with
  | .dat (.int i) => some (some i, p.2)
  | _ => none
@[simp] theorem oS_e : oS fe Γ M = (fe Γ M).bind osk := rfl
@[simp] theorem osk_e : osk (.dat (.int x), M) = some (some x, M) := rfl
@[simp] theorem sCut_tup {lo hi : Option Int} : sCut (.tuple xs) lo hi = some (.dat (.tuple (cutL xs lo hi))) := rfl
@[simp] theorem sCut_lst {lo hi : Option Int} : sCut (.list xs) lo hi = some (.new (.list (cutL xs lo hi))) := rfl
theorem cut_to {xs : List D} {x : Int} (h : 0 ≤ x) : cutL xs none (some x) = xs.take x.toNat := by
  obtain ⟨n, rfl⟩ := Int.eq_ofNat_of_zero_le h
  unfold cutL
  rw [show HT.sIx xs.length 0 none = 0 from rfl, show HT.sIx xs.length xs.length (some ((n : Nat) : Int)) = min n xs.length from HT.sIx_nat _ _ _]
  rw [List.drop_zero, Nat.sub_zero, Int.toNat_natCast]
  rcases Nat.le_total n xs.length with h | h
  · rw [Nat.min_eq_left h]
  · rw [Nat.min_eq_right h, List.take_of_length_le (Nat.le_refl _), List.take_of_length_le h]
theorem cut_from {xs : List D} {x : Int} (h : 0 ≤ x) : cutL xs (some x) none = xs.drop x.toNat := by
  obtain ⟨n, rfl⟩ := Int.eq_ofNat_of_zero_le h
  unfold cutL
  rw [show HT.sIx xs.length 0 (some ((n : Nat) : Int)) = min n xs.length from HT.sIx_nat _ _ _, show HT.sIx xs.length xs.length none = xs.length from rfl]
  rw [Int.toNat_natCast]
  rcases Nat.le_total n xs.length with h | h
  · rw [Nat.min_eq_left h, List.take_of_length_le (by rw [List.length_drop]; exact Nat.le_refl _)]
  · rw [Nat.min_eq_right h, List.drop_of_length_le h, List.drop_of_length_le (Nat.le_refl _)]; simp
@[simp] theorem oAdd_tup (h : xs.length + ys.length ≤ LIM) : oAdd (.tuple xs) (.tuple ys) = some (.dat (.tuple (xs ++ ys))) := if_pos h
@[simp] theorem oAdd_lst (h : xs.length + ys.length ≤ LIM) : oAdd (.list xs) (.list ys) = some (.new (.list (xs ++ ys))) := if_pos h
@[simp] theorem oRev_tup : oRev (.tuple xs) = some (.dat (.tuple xs.reverse)) := rfl
def retk (n : Nat) (M : Sto) (r : Ret × Sto) : Option (Ret × Sto) := match r.2 with
  | [.fl d'] => (isoR r.1).map fun q => (q, M.set n (.fl d'))
  | _ => none
def isok (M : Sto) (r : Ret × Sto) : Option (Ret × Sto) := (isoR r.1).map fun q => (q, M)
def callk (gf : FnT) (ss : List SV) (M : Sto) (o : Option Nat) : Option (Ret × Sto) := match o with
  | none => (gf ss []).bind (isok M)
  | some n => (flD M[n]?).bind fun d => (gf (relab ss) [.fl d]).bind (retk n M)
def callp (iso : Bool) (gf : FnT) (p : List SV × Sto) : Option (Ret × Sto) := callA iso gf p.1 p.2
@[simp] theorem dCall_e {iso : Bool} : dCall gf fr iso Γ M = ((fr Γ M).bind (callp iso gf)).bind okR := by
  unfold dCall callp
  rw [Option.bind_assoc]
@[simp] theorem dCallX_e {iso : Bool} : dCallX gf fr iso Γ M = (fr Γ M).bind (callp iso gf) := rfl
theorem callS_e : callS gf ss M = (onePtr ss).bind (callk gf ss M) := by
  unfold callS
  rfl
@[simp] theorem callp_iso : callp true gf (ss, M) = (onePtr ss).bind (callk gf ss M) := callS_e
@[simp] theorem callp_all : callp false gf (ss, M) = gf ss M := rfl
@[simp] theorem callk_none : callk gf ss M none = (gf ss []).bind (isok M) := rfl
@[simp] theorem callk_some : callk gf ss M (some n) = (flD M[n]?).bind fun d => (gf (relab ss) [.fl d]).bind (retk n M) := rfl
@[simp] theorem isok_dat : isok M (.ok (.dat d), M') = some (.ok (.dat d), M) := rfl
@[simp] theorem isok_er : isok M (.er er, M') = some (.er er, M) := rfl
@[simp] theorem retk_dat : retk n M (.ok (.dat d), [.fl e]) = some (.ok (.dat d), M.set n (.fl e)) := rfl
@[simp] theorem retk_er : retk n M (.er er, [.fl e]) = some (.er er, M.set n (.fl e)) := rfl
@[simp] theorem okR_ok : okR (.ok s, M) = some (s, M) := rfl
@[simp] theorem onePtr_nil : onePtr [] = some none := rfl
@[simp] theorem onePtr_dat : onePtr (.dat d :: ss) = onePtr ss := rfl
def opk (n : Nat) (o : Option Nat) : Option (Option Nat) := match o with
  | none => some (some n)
  | some m => if m = n then some (some n) else none
@[simp] theorem onePtr_ptr : onePtr (.ptr n :: ss) = (onePtr ss).bind (opk n) := rfl
@[simp] theorem opk_none : opk n none = some (some n) := rfl
@[simp] theorem opk_some {m : Nat} : opk n (some m) = if m = n then some (some n) else none := rfl
@[simp] theorem relab_nil : relab [] = [] := rfl
@[simp] theorem relab_dat : relab (.dat d :: ss) = .dat d :: relab ss := rfl
@[simp] theorem relab_ptr : relab (.ptr n :: ss) = .ptr 0 :: relab ss := rfl
def xrk (Γ : Ga) (p : Ret × Sto) : Fl × Ga × Sto := match p.1 with
  | .ok s => (.rt s, Γ, p.2)
  | .er e => (.ex e, Γ, p.2)
def xek (Γ : Ga) (p : Ret × Sto) : Fl × Ga × Sto := match p.1 with
  | .ok _ => (.nx, Γ, p.2)
  | .er e => (.ex e, Γ, p.2)
def xak (i : Nat) (Γ : Ga) (p : Ret × Sto) : Fl × Ga × Sto := match p.1 with
  | .ok s => (.nx, Γ.set i (some s), p.2)
  | .er e => (.ex e, Γ, p.2)
@[simp] theorem sRetX_e {fx : DX} : sRetX fx Γ M = (fx Γ M).map (xrk Γ) := rfl
@[simp] theorem sExprX_e {fx : DX} : sExprX fx Γ M = (fx Γ M).map (xek Γ) := rfl
@[simp] theorem sAsgX_e {fx : DX} : sAsgX i fx Γ M = (fx Γ M).map (xak i Γ) := rfl
@[simp] theorem xrk_ok : xrk Γ (.ok s, M) = (.rt s, Γ, M) := rfl
@[simp] theorem xrk_er : xrk Γ (.er er, M) = (.ex er, Γ, M) := rfl
@[simp] theorem xek_ok : xek Γ (.ok s, M) = (.nx, Γ, M) := rfl
@[simp] theorem xek_er : xek Γ (.er er, M) = (.ex er, Γ, M) := rfl
@[simp] theorem xak_ok : xak i Γ (.ok s, M) = (.nx, Γ.set i (some s), M) := rfl
@[simp] theorem xak_er : xak i Γ (.er er, M) = (.ex er, Γ, M) := rfl
def mwk (T : String) (gm : Cell → List SV → Option (Cell × SV)) (fr : DA) (Γ : Ga) (p : SV × Sto) : Option (SV × Sto) := match p.1 with
  | .ptr n => (p.2[n]?).bind fun d1 => if tyC T d1 = true then (fr Γ p.2).bind fun q => (q.2[n]?).bind fun d => (gm d q.1).map fun o => (o.2, q.2.set n o.1) else none
  | _ => none
@[simp] theorem dMethW_e {T : String} {gm : Cell → List SV → Option (Cell × SV)} : dMethW T gm fo fr Γ M = (fo Γ M).bind (mwk T gm fr Γ) := rfl
@[simp] theorem mwk_e {T : String} {gm : Cell → List SV → Option (Cell × SV)} : mwk T gm fr Γ (.ptr n, M) = (M[n]?).bind fun d1 => if tyC T d1 = true then (fr Γ M).bind fun q => (q.2[n]?).bind fun d => (gm d q.1).map fun o => (o.2, q.2.set n o.1) else none := rfl
@[simp] theorem dMeth_e {T : String} {gm : D → List D → Option OR} : dMeth T gm fo fr mm Γ M = (fo Γ M).bind fun p => (val p.1 p.2).bind fun d1 => if tyD T d1 = true then (fr Γ p.2).bind fun q => (val p.1 q.2).bind fun d => (vals q.1 q.2).bind fun ds => (gm d ds).map fun o => o.out mm q.2 else none := rfl
@[simp] theorem dGet_e : dGet fo fr Γ M = (fo Γ M).bind fun p => (val p.1 p.2).bind fun d1 => if tyD "dict" d1 = true then (fr Γ p.2).bind fun q => (val p.1 q.2).bind fun d => (dats q.1).bind fun ds => (mGet d ds).map fun o => o.out false q.2 else none := rfl
@[simp] theorem tyD_list : tyD "list" (.list xs) = true := rfl
@[simp] theorem tyD_dict {kvs : List (D × D)} : tyD "dict" (.dict kvs) = true := rfl
@[simp] theorem tyC_list : tyC "list" (.fl (.list xs)) = true := rfl
@[simp] theorem tyC_ls : tyC "list" (.ls ss) = true := rfl
@[simp] theorem cAppend_e (h : xs.length < LIM) : cAppend (.fl (.list xs)) [.dat d] = some (.fl (.list (xs ++ [d])), .dat .none) := if_pos h
@[simp] theorem cAppend_ls (h : ss.length < LIM) : cAppend (.ls ss) [s] = some (.ls (ss ++ [s]), .dat .none) := if_pos h
@[simp] theorem cInsert_e (h : xs.length < LIM) (h2 : 0 ≤ x) (h3 : x ≤ 1000000000) : cInsert (.fl (.list xs)) [.dat (.int x), .dat d] = some (.fl (.list (xs.take x.toNat ++ [d] ++ xs.drop x.toNat)), .dat .none) := if_pos ⟨h, h2, h3⟩
@[simp] theorem dDictN_e : dDictN mm Γ M = some ((OR.new (.dict [(.none, .none)])).out mm M) := rfl
@[simp] theorem dDictK_e : dDictK mm Γ M = some ((OR.new (.dict [])).out mm M) := rfl
@[simp] theorem oIsB {a b : Bool} : oIs (.bool a) (.bool b) = some (.dat (.bool (decide (a = b)))) := rfl
@[simp] theorem oIsNotB {a b : Bool} : oIsNot (.bool a) (.bool b) = some (.dat (.bool (!decide (a = b)))) := rfl
@[simp] theorem truD_b : truD (.bool b) = some b := rfl
@[simp] theorem truD_i : truD (.int x) = some (x != 0) := rfl
@[simp] theorem truD_l : truD (.list xs) = some (!xs.isEmpty) := rfl
@[simp] theorem truD_t : truD (.tuple xs) = some (!xs.isEmpty) := rfl
@[simp] theorem oNot_b : oNot (.bool b) = some (.dat (.bool (!b))) := rfl
def agk (gg : D → D → Option OR) (n : Nat) (i x : D) (Γ : Ga) (p : SV × Sto) : Option (Fl × Ga × Sto) := match p.1 with
  | .dat y => (match gg x y with
    | some (.dat z) => (p.2[n]?).bind fun d2 => (oSet d2 i (.dat z)).map fun d' => (.nx, Γ, p.2.set n d')
    | _ => none)
  | _ => none
def agx (gg : D → D → Option OR) (n : Nat) (i : D) (fe : DE) (Γ : Ga) (M : Sto) (s : SV) : Option (Fl × Ga × Sto) := match s with
  | .dat x => (fe Γ M).bind (agk gg n i x Γ)
  | _ => none
def ags (gg : D → D → Option OR) (fe : DE) (o : SV) (Γ : Ga) (p : SV × Sto) : Option (Fl × Ga × Sto) := match o, p.1 with
  | .ptr n, .dat i => (ixS (.ptr n) (.dat i) p.2).bind (agx gg n i fe Γ p.2)
  | _, _ => none
@[simp] theorem sAugSub_e : sAugSub gg fo fi fe Γ M = (fo Γ M).bind fun po => (fi Γ po.2).bind (ags gg fe po.1 Γ) := by
  unfold sAugSub
  congr 1; funext po; congr 1; funext pi
  unfold ags
  cases po.1 <;> cases pi.1 <;> try rfl
  rename_i n i
  simp only
  cases h : ixS (.ptr n) (.dat i) pi.2 with
  | none => rfl
  | some s => cases s <;> rfl
@[simp] theorem ags_e : ags gg fe (.ptr n) Γ (.dat d, M) = (ixC M[n]? d).bind (agx gg n d fe Γ M) := rfl
@[simp] theorem agx_e : agx gg n d fe Γ M (.dat e) = (fe Γ M).bind (agk gg n d e Γ) := rfl
theorem agk_e {z : D} (h : gg d d' = some (.dat z)) : agk gg n e d Γ (.dat d', M) = (M[n]?).bind fun d2 => (oSet d2 e (.dat z)).map fun d' => (.nx, Γ, M.set n d') := by
  unfold agk
  simp only [h]
@[simp] theorem agk_add : agk oIAdd n e (.int x) Γ (.dat (.int y), M) = (M[n]?).bind fun d2 => (oSet d2 e (.dat (.int (x + y)))).map fun d' => (.nx, Γ, M.set n d') := rfl
@[simp] theorem agk_sub : agk oSub n e (.int x) Γ (.dat (.int y), M) = (M[n]?).bind fun d2 => (oSet d2 e (.dat (.int (x - y)))).map fun d' => (.nx, Γ, M.set n d') := rfl
def augk (gg : D → D → Option OR) (i : Nat) (fe : DE) (Γ : Ga) (M : Sto) (o : Option (Option SV)) : Option (Fl × Ga × Sto) := match o with
  | some (some s) => (fe Γ M).bind fun p => (val s p.2).bind fun d => (val p.1 p.2).bind fun e => (gg d e).map fun o => (.nx, Γ.set i (some (o.out false p.2).1), (o.out false p.2).2)
  | _ => none
@[simp] theorem sAug_e : sAug gg i fe Γ M = augk gg i fe Γ M Γ[i]? := rfl
@[simp] theorem augk_e : augk gg i fe Γ M (some (some s)) = (fe Γ M).bind fun p => (val s p.2).bind fun d => (val p.1 p.2).bind fun e => (gg d e).map fun o => (.nx, Γ.set i (some (o.out false p.2).1), (o.out false p.2).2) := rfl
@[simp] theorem gNm_e : gNm i s M Γ = some (Γ.set i (some s)) := rfl
@[simp] theorem gTp_e {gs : List DG} : gTp gs (.dat (.tuple ds)) M Γ = gEach gs (ds.map .dat) M Γ := rfl
@[simp] theorem gEach_nil : gEach [] [] M Γ = some Γ := rfl
@[simp] theorem gEach_cons {h : DG} {gs : List DG} : gEach (h :: gs) (s :: ss) M Γ = (h s M Γ).bind fun Γ1 => gEach gs ss M Γ1 := rfl
@[simp] theorem wipeG_nil : wipeG Γ [] = Γ := rfl
@[simp] theorem wipeG_cons {is : List Nat} : wipeG Γ (i :: is) = (wipeG Γ is).set i none := rfl
@[simp] theorem tYes_e : tYes_ Γ M = some (true, M) := rfl
@[simp] theorem dUn_isi {T : String} : (oIsi T (.int x)) = some (.dat (.bool (isi T (.int x)))) := rfl
def sqw (p : SV × Sto) : Option ((DIt × Nat) × Sto) := match p.1 with
  | .dat (.list ds) => some ((itD ds, ds.length), p.2)
  | .dat (.tuple ds) => some ((itD ds, ds.length), p.2)
  | .dat (.str z) => some ((itD (sgnD z), (sgnD z).length), p.2)
  | .ptr n => match p.2[n]? with
    | some (.fl (.list ds)) => some ((itP n, ds.length), p.2)
    | some (.ls ss) => some ((itP n, ss.length), p.2)
    | _ => none
  | _ => none
@[simp] theorem iSeq_e : iSeq fe Γ M = (fe Γ M).bind sqw := rfl
@[simp] theorem sqw_list : sqw (.dat (.list ds), M) = some ((itD ds, ds.length), M) := rfl
@[simp] theorem sqw_tup : sqw (.dat (.tuple ds), M) = some ((itD ds, ds.length), M) := rfl
@[simp] theorem sqw_str {z : Str} : sqw (.dat (.str z), M) = some ((itD (sgnD z), (sgnD z).length), M) := rfl
theorem sqw_ptr (h : M[n]? = some (.fl (.list ds))) : sqw (.ptr n, M) = some ((itP n, ds.length), M) := by
  unfold sqw
  simp only [h]
def rgw (p : List SV × Sto) : Option ((DIt × Nat) × Sto) := match p.1 with
  | [.dat (.int j)] => if -1000000 ≤ j ∧ j ≤ 1000000 then some ((itR 0 j.toNat, j.toNat), p.2) else none
  | [.dat (.int i), .dat (.int j)] => if (-1000000 ≤ i ∧ i ≤ 1000000) ∧ -1000000 ≤ j ∧ j ≤ 1000000 then some ((itR i (j - i).toNat, (j - i).toNat), p.2) else none
  | _ => none
@[simp] theorem iRng_e : iRng fr Γ M = (fr Γ M).bind rgw := rfl
def zpw (p : List SV × Sto) : Option ((DIt × Nat) × Sto) := match p.1 with
  | [a, b] => (zSide a p.2).bind fun x => (zSide b p.2).bind fun y => if x.2 = y.2 then some ((itZ x.1.1 y.1.1, min x.1.2 y.1.2), p.2) else none
  | _ => none
@[simp] theorem iZip_e : iZip fr Γ M = (fr Γ M).bind zpw := rfl
theorem itZ_D {xs ys : List D} : itZ (itD xs) (itD ys) = itD ((xs.zip ys).map fun p => .tuple [p.1, p.2]) := by
  funext M i
  unfold itZ itD
  simp only [List.getElem?_map]
  cases h1 : xs[i]? <;> cases h2 : ys[i]? <;> simp [List.getElem?_zip_eq_some, List.zip, List.getElem?_zipWith, h1, h2]
@[simp] theorem zpw_tup : zpw ([.dat (.tuple xs), .dat (.tuple ys)], M) = some ((itD ((xs.zip ys).map fun p => .tuple [p.1, p.2]), ((xs.zip ys).map fun p : D × D => PyData.tuple [p.1, p.2]).length), M) := by
  show some ((itZ (itD xs) (itD ys), min xs.length ys.length), M) = _
  rw [itZ_D, List.length_map, List.length_zip]
@[simp] theorem zpw_lst : zpw ([.dat (.list xs), .dat (.list ys)], M) = some ((itD ((xs.zip ys).map fun p => .tuple [p.1, p.2]), ((xs.zip ys).map fun p : D × D => PyData.tuple [p.1, p.2]).length), M) := by
  show some ((itZ (itD xs) (itD ys), min xs.length ys.length), M) = _
  rw [itZ_D, List.length_map, List.length_zip]
/-- each with its number -/
def numb (xs : List D) : List D := xs.zipIdx.map fun p => .tuple [.int (p.2 : Nat), p.1]
@[simp] theorem numb_length : (numb xs).length = xs.length := by
  unfold numb
  rw [List.length_map, List.length_zipIdx]
theorem itE_D {xs : List D} : itE (itD xs) = itD (numb xs) := by
  funext M i
  unfold itE itD numb
  simp only [List.getElem?_map, List.getElem?_zipIdx]
  cases h1 : xs[i]? <;> simp
def enw (p : List SV × Sto) : Option ((DIt × Nat) × Sto) := match p.1 with
  | [a] => (zSide a p.2).map fun x => ((itE x.1.1, x.1.2), p.2)
  | _ => none
@[simp] theorem iEn_e : iEn fr Γ M = (fr Γ M).bind enw := rfl
@[simp] theorem enw_tup : enw ([.dat (.tuple xs)], M) = some ((itD (numb xs), (numb xs).length), M) := by
  show some ((itE (itD xs), xs.length), M) = _
  rw [itE_D, numb_length]
@[simp] theorem enw_lst : enw ([.dat (.list xs)], M) = some ((itD (numb xs), (numb xs).length), M) := by
  show some ((itE (itD xs), xs.length), M) = _
  rw [itE_D, numb_length]
/-- a range is the list of its ints -/
theorem itR_D {lo : Int} {n : Nat} : itR lo n = itD ((List.range n).map fun i : Nat => PyData.int (lo + (i : Int))) := by
  funext M i
  unfold itR itD
  rw [List.getElem?_map]
  by_cases h : i < n
  · rw [if_pos h, List.getElem?_range h]; rfl
  · rw [if_neg h, List.getElem?_eq_none (by rw [List.length_range]; omega)]; rfl
end
def rngD (lo : Int) (n : Nat) : List D := (List.range n).map fun i : Nat => PyData.int (lo + (i : Int))
theorem itR_rng {lo : Int} {n : Nat} : itR lo n = itD (rngD lo n) := itR_D
@[simp] theorem rngD_length {lo : Int} {n : Nat} : (rngD lo n).length = n := by
  unfold rngD
  rw [List.length_map, List.length_range]
theorem rngD_get {lo : Int} {n i : Nat} (h : i < n) : (rngD lo n)[i]? = some (.int (lo + i)) := by
  unfold rngD
  rw [List.getElem?_map, List.getElem?_range h]; rfl
@[simp] theorem rgw_1 {y : Int} {M : Sto} (h : -1000000 ≤ y) (h2 : y ≤ 1000000) : rgw ([.dat (.int y)], M) = some ((itD (rngD 0 y.toNat), (rngD 0 y.toNat).length), M) := by
  rw [rngD_length, ← itR_rng]; exact if_pos ⟨h, h2⟩
@[simp] theorem rgw_2 {x y : Int} {M : Sto} (h : -1000000 ≤ y) (h2 : y ≤ 1000000) (h3 : -1000000 ≤ x) (h4 : x ≤ 1000000) : rgw ([.dat (.int x), .dat (.int y)], M) = some ((itD (rngD x (y - x).toNat), (rngD x (y - x).toNat).length), M) := by
  rw [rngD_length, ← itR_rng]; exact if_pos ⟨⟨h3, h4⟩, h, h2⟩
def lrk (mm : Bool) (p : SV × Sto) : Option (SV × Sto) := match p.1 with
  | .dat (.int n) => if -1000000 ≤ n ∧ n ≤ 1000000 then some ((OR.new (.list (rgD 0 n))).out mm p.2) else none
  | _ => none
@[simp] theorem oLstRg1_e {mm : Bool} {fa : DE} {Γ : Ga} {M : Sto} : oLstRg1 fa mm Γ M = (fa Γ M).bind (lrk mm) := rfl
@[simp] theorem lrk_e {mm : Bool} {y : Int} {M : Sto} (h : -1000000 ≤ y) (h2 : y ≤ 1000000) : lrk mm (.dat (.int y), M) = some ((OR.new (.list (rgD 0 y))).out mm M) := if_pos ⟨h, h2⟩
theorem rgD_rng {n : Int} : rgD 0 n = rngD 0 n.toNat := by
  unfold rgD rngD
  rw [Int.sub_zero]
/-- what a turn of a loop may end in -/
def Turned (Inv : Nat → Ga → Sto → Prop) (Ret : Fl × Ga × Sto → Prop) (i : Nat) (r : Fl × Ga × Sto) : Prop := match r.1 with
  | .nx => Inv (i + 1) r.2.1 r.2.2
  | .ct => Inv (i + 1) r.2.1 r.2.2
  | .bk => Ret (.nx, r.2.1, r.2.2)
  | .rt s => Ret (.rt s, r.2.1, r.2.2)
  | .ex s => Ret (.ex s, r.2.1, r.2.2)
theorem forL_ind {ds : List D} {tg : DG} {body : DS} (Inv : Nat → Ga → Sto → Prop) (Ret : Fl × Ga × Sto → Prop)
    (step : ∀ i d Γ M, ds[i]? = some d → Inv i Γ M → ∃ Γ1 r, tg (.dat d) M Γ = some Γ1 ∧ body Γ1 M = some r ∧ Turned Inv Ret i r) :
    ∀ (k i : Nat) (Γ : Ga) (M : Sto), i + k = ds.length → Inv i Γ M → ∃ r, forL (itD ds) tg body (k + 1) i Γ M = some r ∧ (Ret r ∨ ∃ Γ' M', r = (.nx, Γ', M') ∧ Inv ds.length Γ' M')
  | 0, i, Γ, M, hk, h => by
    refine ⟨(.nx, Γ, M), ?_, .inr ⟨Γ, M, rfl, ?_⟩⟩
    · unfold forL itD
      rw [List.getElem?_eq_none (by omega)]; rfl
    · have : i = ds.length := by omega
      rw [← this]; exact h
  | k + 1, i, Γ, M, hk, h => by
    have hd : ds[i]? = some ds[i] := List.getElem?_eq_getElem (by omega)
    obtain ⟨Γ1, ⟨fl, Γ2, M2⟩, e1, e2, t⟩ := step i _ Γ M hd h
    unfold forL
    simp only [itD, hd, Option.map_some, e1, e2, Option.bind_some]
    cases fl with
    | nx => exact forL_ind Inv Ret step k (i + 1) Γ2 M2 (by omega) t
    | ct => exact forL_ind Inv Ret step k (i + 1) Γ2 M2 (by omega) t
    | bk => exact ⟨_, rfl, .inl t⟩
    | rt s => exact ⟨_, rfl, .inl t⟩
    | ex s => exact ⟨_, rfl, .inl t⟩
theorem sFor_ind {fi : DI} {tg : DG} {body : DS} {Γ : Ga} {M M1 : Sto} {ds : List D} (hi : fi Γ M = some ((itD ds, ds.length), M1)) (Inv : Nat → Ga → Sto → Prop) (Ret : Fl × Ga × Sto → Prop)
    (h0 : Inv 0 Γ M1) (step : ∀ i d Γ M, ds[i]? = some d → Inv i Γ M → ∃ Γ1 r, tg (.dat d) M Γ = some Γ1 ∧ body Γ1 M = some r ∧ Turned Inv Ret i r) :
    ∃ r, sFor fi tg body Γ M = some r ∧ (Ret r ∨ ∃ Γ' M', r = (.nx, Γ', M') ∧ Inv ds.length Γ' M') := by
  obtain ⟨r, e, h⟩ := forL_ind Inv Ret step ds.length 0 Γ M1 (by omega) h0
  refine ⟨r, ?_, h⟩
  unfold sFor
  rw [hi]
  exact e
/-- a loop that always runs to its end -/
theorem sFor_all {fi : DI} {tg : DG} {body : DS} {Γ : Ga} {M M1 : Sto} {ds : List D} (hi : fi Γ M = some ((itD ds, ds.length), M1)) (Inv : Nat → Ga → Sto → Prop)
    (h0 : Inv 0 Γ M1) (step : ∀ i d Γ M, ds[i]? = some d → Inv i Γ M → ∃ Γ1 Γ2 M2, tg (.dat d) M Γ = some Γ1 ∧ body Γ1 M = some (.nx, Γ2, M2) ∧ Inv (i + 1) Γ2 M2) :
    ∃ Γ' M', sFor fi tg body Γ M = some (.nx, Γ', M') ∧ Inv ds.length Γ' M' := by
  obtain ⟨r, e, h⟩ := sFor_ind hi Inv (fun _ => False) h0 fun i d Γ M h1 h2 => by
    obtain ⟨Γ1, Γ2, M2, e1, e2, e3⟩ := step i d Γ M h1 h2
    exact ⟨Γ1, _, e1, e2, e3⟩
  rcases h with h | ⟨Γ', M', rfl, h⟩
  · exact h.elim
  · exact ⟨Γ', M', e, h⟩

theorem itL_ind {ds : List D} {step : DSt} (Inv : Nat → Sto → List D → Prop)
    (hs : ∀ i d M acc, ds[i]? = some d → Inv i M acc → ∃ acc' M', step (.dat d) M (acc.map .dat) = some (acc'.map .dat, M') ∧ Inv (i + 1) M' acc') :
    ∀ (k i : Nat) (M : Sto) (acc : List D), i + k = ds.length → Inv i M acc → ∃ M' acc', itL (itD ds) step (k + 1) i M (acc.map .dat) = some (acc'.map .dat, M') ∧ Inv ds.length M' acc'
  | 0, i, M, acc, hk, h => by
    refine ⟨M, acc, ?_, ?_⟩
    · unfold itL itD
      rw [List.getElem?_eq_none (by omega)]; rfl
    · have : i = ds.length := by omega
      rw [← this]; exact h
  | k + 1, i, M, acc, hk, h => by
    have hd : ds[i]? = some ds[i] := List.getElem?_eq_getElem (by omega)
    obtain ⟨acc', M', e1, h1⟩ := hs i _ M acc hd h
    unfold itL
    simp only [itD, hd, Option.map_some, e1, Option.bind_some]
    exact itL_ind Inv hs k (i + 1) M' acc' (by omega) h1
def cpw (m : Bool) (step : DSt) (p : (DIt × Nat) × Sto) : Option (SV × Sto) := (itL p.1.1 step (p.1.2 + 1) 0 p.2 []).bind (finL m)
theorem dComp_e {fi : DI} {step : Ga → DSt} {m : Bool} {Γ : Ga} {M : Sto} : dComp fi step m Γ M = (fi Γ M).bind (cpw m (step Γ)) := rfl
def finD (m : Bool) (ds : List D) (M : Sto) : SV × Sto := (OR.new (.list ds)).out m M
@[simp] theorem finD_f {ds : List D} {M : Sto} : finD false ds M = (.dat (.list ds), M) := rfl
@[simp] theorem finD_t {ds : List D} {M : Sto} : finD true ds M = (.ptr M.length, M ++ [.fl (.list ds)]) := rfl
theorem finL_d {m : Bool} {ds : List D} {M : Sto} : finL m (ds.map .dat, M) = some (finD m ds M) := by
  unfold finL
  cases m with
  | true => simp
  | false => simp
/-- a comprehension whose items are data -/
theorem cpw_ind {ds : List D} {step : DSt} {m : Bool} {M : Sto} (Inv : Nat → Sto → List D → Prop) (h0 : Inv 0 M [])
    (hs : ∀ i d M acc, ds[i]? = some d → Inv i M acc → ∃ acc' M', step (.dat d) M (acc.map .dat) = some (acc'.map .dat, M') ∧ Inv (i + 1) M' acc') :
    ∃ M' acc, cpw m step ((itD ds, ds.length), M) = some (finD m acc M') ∧ Inv ds.length M' acc := by
  obtain ⟨M', acc, e, h⟩ := itL_ind Inv hs ds.length 0 M [] (by omega) h0
  refine ⟨M', acc, ?_, h⟩
  unfold cpw
  have e' : itL (itD ds) step (ds.length + 1) 0 M [] = some (acc.map .dat, M') := e
  simp only [e', Option.bind_some]
  exact finL_d
theorem elS_d {te : DE} {Γ : Ga} {M M' : Sto} {acc : List D} {x : D} (h : te Γ M = some (.dat x, M')) (hl : acc.length < LIM) : elS te Γ M (acc.map .dat) = some ((acc ++ [x]).map .dat, M') := by
  unfold elS
  simp [h, hl]
theorem cStep_t {tg : DG} {tt : DT} {own : List Nat} {te : DE} {Γ Γ1 : Ga} {d : SV} {M M1 M2 : Sto} {acc : List D} {x : D} (h1 : tg d M (wipeG Γ own) = some Γ1) (h2 : tt Γ1 M = some (true, M1)) (h3 : te Γ1 M1 = some (.dat x, M2)) (hl : acc.length < LIM) :
    cStep tg tt own te Γ d M (acc.map .dat) = some ((acc ++ [x]).map .dat, M2) := by
  unfold cStep
  simp only [h1, h2, Option.bind_some, if_true]
  exact elS_d h3 hl
theorem cStep_f {tg : DG} {tt : DT} {own : List Nat} {te : DE} {Γ Γ1 : Ga} {d : SV} {M M1 : Sto} {acc : List D} (h1 : tg d M (wipeG Γ own) = some Γ1) (h2 : tt Γ1 M = some (false, M1)) :
    cStep tg tt own te Γ d M (acc.map .dat) = some (acc.map .dat, M1) := by
  unfold cStep
  simp only [h1, h2, Option.bind_some]
  rfl
/-- a comprehension that changes nothing -/
theorem cpw_map {ds : List D} {tg : DG} {own : List Nat} {Γ : Ga} {tt : DT} {te : DE} {m : Bool} {M : Sto} (p : D → Bool) (h : D → D) (hL : ds.length ≤ LIM)
    (step : ∀ d ∈ ds, ∃ Γ1, tg (.dat d) M (wipeG Γ own) = some Γ1 ∧ tt Γ1 M = some (p d, M) ∧ (p d = true → te Γ1 M = some (.dat (h d), M))) :
    cpw m (cStep tg tt own te Γ) ((itD ds, ds.length), M) = some (finD m ((ds.filter p).map h) M) := by
  obtain ⟨M', acc, e, rfl, ha, _⟩ := cpw_ind (ds := ds) (step := cStep tg tt own te Γ) (m := m) (M := M) (fun i M' acc => M' = M ∧ acc = ((ds.take i).filter p).map h ∧ acc.length ≤ i) ⟨rfl, by simp, by simp⟩ fun i d M' acc hd ⟨hM, ha, hl⟩ => by
    subst hM
    obtain ⟨Γ1, e1, e2, e3⟩ := step d (List.mem_of_getElem? hd)
    have hi := (List.getElem?_eq_some_iff.mp hd).1
    have ht : ds.take (i + 1) = ds.take i ++ [d] := by
      rw [List.take_add_one, hd]; rfl
    cases hp : p d with
    | true =>
      rw [hp] at e2
      refine ⟨acc ++ [h d], M', cStep_t e1 e2 (e3 hp) (by omega), rfl, ?_, by simp; omega⟩
      rw [ht, List.filter_append, List.map_append, ha, List.filter_cons_of_pos hp]; rfl
    | false =>
      rw [hp] at e2
      refine ⟨acc, M', cStep_f e1 e2, rfl, ?_, by omega⟩
      rw [ht, List.filter_append, List.map_append, ha, List.filter_cons_of_neg (by rw [hp]; exact Bool.false_ne_true)]; simp
  rw [e, ha, List.take_length]
theorem cpw_all {ds : List D} {tg : DG} {own : List Nat} {Γ : Ga} {te : DE} {m : Bool} {M : Sto} (h : D → D) (hL : ds.length ≤ LIM)
    (step : ∀ d ∈ ds, ∃ Γ1, tg (.dat d) M (wipeG Γ own) = some Γ1 ∧ te Γ1 M = some (.dat (h d), M)) :
    cpw m (cStep tg tYes_ own te Γ) ((itD ds, ds.length), M) = some (finD m (ds.map h) M) := by
  have := cpw_map (tt := tYes_) (m := m) (fun _ => true) h hL fun d hd => by
    obtain ⟨Γ1, e1, e2⟩ := step d hd
    exact ⟨Γ1, e1, rfl, fun _ => e2⟩
  rw [this, List.filter_eq_self.mpr fun _ _ => rfl]
theorem dComp_map {fi : DI} {ds : List D} {tg : DG} {own : List Nat} {Γ : Ga} {tt : DT} {te : DE} {m : Bool} {M0 M : Sto} (p : D → Bool) (h : D → D) (hi : fi Γ M0 = some ((itD ds, ds.length), M)) (hL : ds.length ≤ LIM)
    (step : ∀ d ∈ ds, ∃ Γ1, tg (.dat d) M (wipeG Γ own) = some Γ1 ∧ tt Γ1 M = some (p d, M) ∧ (p d = true → te Γ1 M = some (.dat (h d), M))) :
    dComp fi (cStep tg tt own te) m Γ M0 = some (finD m ((ds.filter p).map h) M) := by
  rw [dComp_e, hi]
  exact cpw_map p h hL step
theorem dComp_all {fi : DI} {ds : List D} {tg : DG} {own : List Nat} {Γ : Ga} {te : DE} {m : Bool} {M0 M : Sto} (h : D → D) (hi : fi Γ M0 = some ((itD ds, ds.length), M)) (hL : ds.length ≤ LIM)
    (step : ∀ d ∈ ds, ∃ Γ1, tg (.dat d) M (wipeG Γ own) = some Γ1 ∧ te Γ1 M = some (.dat (h d), M)) :
    dComp fi (cStep tg tYes_ own te) m Γ M0 = some (finD m (ds.map h) M) := by
  rw [dComp_e, hi]
  exact cpw_all h hL step
/-- two fors, nothing changed -/
theorem cpw2_map {ds : List D} {tg tg1 : DG} {own own1 : List Nat} {Γ : Ga} {tt tt1 : DT} {fi1 : DI} {te : DE} {m : Bool} {M : Sto} (es : D → List D) (p : D → D → Bool) (h : D → D → D) (hL : (ds.flatMap es).length ≤ LIM)
    (step : ∀ d ∈ ds, ∃ Γ1, tg (.dat d) M (wipeG Γ own) = some Γ1 ∧ tt Γ1 M = some (true, M) ∧ fi1 Γ1 M = some ((itD (es d), (es d).length), M) ∧
      ∀ e ∈ es d, ∃ Γ2, tg1 (.dat e) M (wipeG Γ1 own1) = some Γ2 ∧ tt1 Γ2 M = some (p d e, M) ∧ (p d e = true → te Γ2 M = some (.dat (h d e), M))) :
    cpw m (cStep2 tg tt own fi1 tg1 tt1 own1 te Γ) ((itD ds, ds.length), M) = some (finD m (ds.flatMap fun d => ((es d).filter (p d)).map (h d)) M) := by
  obtain ⟨M', acc, e, rfl, ha, _⟩ := cpw_ind (ds := ds) (step := cStep2 tg tt own fi1 tg1 tt1 own1 te Γ) (m := m) (M := M) (fun i M' acc => M' = M ∧ acc = ((ds.take i).flatMap fun d => ((es d).filter (p d)).map (h d)) ∧ acc.length ≤ ((ds.take i).flatMap es).length) ⟨rfl, by simp, by simp⟩ fun i d M' acc hd ⟨hM, ha, hl⟩ => by
    subst hM
    obtain ⟨Γ1, e1, e2, e3, e4⟩ := step d (List.mem_of_getElem? hd)
    have hi := (List.getElem?_eq_some_iff.mp hd).1
    have ht : ds.take (i + 1) = ds.take i ++ [d] := by
      rw [List.take_add_one, hd]; rfl
    have hle : ((ds.take (i + 1)).flatMap es).length ≤ LIM := by
      refine Nat.le_trans ?_ hL
      conv => rhs; rw [← List.take_append_drop (i + 1) ds, List.flatMap_append, List.length_append]
      omega
    rw [ht, List.flatMap_append, List.length_append] at hle
    simp only [List.flatMap_cons, List.flatMap_nil, List.append_nil] at hle
    obtain ⟨M2, acc2, e5, rfl, ha2, _⟩ := itL_ind (ds := es d) (step := cStep tg1 tt1 own1 te Γ1) (fun j M2 acc2 => M2 = M' ∧ acc2 = acc ++ (((es d).take j).filter (p d)).map (h d) ∧ acc2.length ≤ acc.length + j) (fun j x M2 acc2 hx ⟨hM2, ha2, hl2⟩ => by
      subst hM2
      obtain ⟨Γ2, g1, g2, g3⟩ := e4 x (List.mem_of_getElem? hx)
      have hj := (List.getElem?_eq_some_iff.mp hx).1
      have ht2 : (es d).take (j + 1) = (es d).take j ++ [x] := by
        rw [List.take_add_one, hx]; rfl
      cases hp : p d x with
      | true =>
        rw [hp] at g2
        refine ⟨acc2 ++ [h d x], M2, cStep_t g1 g2 (g3 hp) (by omega), rfl, ?_, by simp; omega⟩
        rw [ht2, List.filter_append, List.map_append, ha2, List.filter_cons_of_pos hp, List.append_assoc]; rfl
      | false =>
        rw [hp] at g2
        refine ⟨acc2, M2, cStep_f g1 g2, rfl, ?_, by omega⟩
        rw [ht2, List.filter_append, List.map_append, ha2, List.filter_cons_of_neg (by rw [hp]; exact Bool.false_ne_true)]; simp) (es d).length 0 M' acc (by omega) ⟨rfl, by simp, by simp⟩
    refine ⟨acc2, M2, ?_, rfl, ?_, ?_⟩
    · unfold cStep2
      simp only [e1, e2, e3, Option.bind_some, if_true]
      exact e5
    · rw [ht, List.flatMap_append, ← ha, ha2, List.take_length]; simp
    · rw [ht, List.flatMap_append, List.length_append, ha2, List.take_length]
      simp only [List.length_append, List.length_map, List.flatMap_cons, List.flatMap_nil, List.append_nil]
      have := List.length_filter_le (p d) (es d)
      omega
  rw [e, ha, List.take_length]
theorem dComp2_map {fi : DI} {ds : List D} {tg tg1 : DG} {own own1 : List Nat} {Γ : Ga} {tt tt1 : DT} {fi1 : DI} {te : DE} {m : Bool} {M0 M : Sto} (es : D → List D) (p : D → D → Bool) (h : D → D → D) (hi : fi Γ M0 = some ((itD ds, ds.length), M)) (hL : (ds.flatMap es).length ≤ LIM)
    (step : ∀ d ∈ ds, ∃ Γ1, tg (.dat d) M (wipeG Γ own) = some Γ1 ∧ tt Γ1 M = some (true, M) ∧ fi1 Γ1 M = some ((itD (es d), (es d).length), M) ∧
      ∀ e ∈ es d, ∃ Γ2, tg1 (.dat e) M (wipeG Γ1 own1) = some Γ2 ∧ tt1 Γ2 M = some (p d e, M) ∧ (p d e = true → te Γ2 M = some (.dat (h d e), M))) :
    dComp fi (cStep2 tg tt own fi1 tg1 tt1 own1 te) m Γ M0 = some (finD m (ds.flatMap fun d => ((es d).filter (p d)).map (h d)) M) := by
  rw [dComp_e, hi]
  exact cpw2_map es p h hL step
@[simp] theorem bAll_m {bs : List Bool} : bAll [.list (bs.map .bool)] = some (.dat (.bool (bs.all id))) := by
  show (blsD (bs.map .bool)).map _ = _
  rw [blsD_map]; rfl
@[simp] theorem bAny_m {bs : List Bool} : bAny [.list (bs.map .bool)] = some (.dat (.bool (bs.any id))) := by
  show (blsD (bs.map .bool)).map _ = _
  rw [blsD_map]; rfl
@[simp] theorem bSum_m {ns : List Int} : bSum [.list (ns.map .int)] = some (.dat (.int ns.sum)) := by
  show (intsD (ns.map .int)).map _ = _
  rw [intsD_map]; rfl
@[simp] theorem bTuple_l {ds : List D} : bTuple [.list ds] = some (.dat (.tuple ds)) := rfl
@[simp] theorem bTuple_t {ds : List D} : bTuple [.tuple ds] = some (.dat (.tuple ds)) := rfl
@[simp] theorem bList_l {ds : List D} : bList [.list ds] = some (.new (.list ds)) := rfl
@[simp] theorem bList_t {ds : List D} : bList [.tuple ds] = some (.new (.list ds)) := rfl
theorem okCmp_ii {a b c d : Int} : okCmp (.tuple [.int a, .int b]) (.tuple [.int c, .int d]) = true := by
  unfold okCmp
  simp [PySem.W.alike, PySem.W.alikeAll, PyData.plain, PyData.plainAll, PyData.depth, PyData.depthAll]
@[simp] theorem oLt_ii {a b c d : Int} : oLt (.tuple [.int a, .int b]) (.tuple [.int c, .int d]) = some (.dat (.bool (decide (a < c ∨ (a = c ∧ b < d))))) := by
  unfold oLt
  rw [if_pos okCmp_ii, PySem.W.dataLt_ii]
@[simp] theorem oGe_ii {a b c d : Int} : oGe (.tuple [.int a, .int b]) (.tuple [.int c, .int d]) = some (.dat (.bool (!decide (a < c ∨ (a = c ∧ b < d))))) := by
  unfold oGe
  rw [if_pos okCmp_ii, PySem.W.dataLt_ii]
theorem oEq_nil {ds : List D} (h : (PyData.tuple ds).plain = true) : oEq (.tuple ds) (.tuple []) = some (.dat (.bool ds.isEmpty)) := by
  unfold oEq
  have hd : min (PyData.depth (.tuple ds)) (PyData.depth (.tuple [])) ≤ 60 := Nat.le_trans (Nat.min_le_right _ _) (by simp [PyData.depth, PyData.depthAll])
  have ho : okEq (.tuple ds) (.tuple []) = true := by
    unfold okEq
    rw [h, decide_eq_true hd]
    simp [PyData.plain, PyData.plainAll]
  rw [if_pos ho]
  cases ds <;> simp [PyData.eqv, PyData.eqvAll]
/-- a loop over a changing list that stays while it is walked -/
theorem forL_indP {it : DIt} {ds : List D} {tg : DG} {body : DS} (Inv : Nat → Ga → Sto → Prop) (Ret : Fl × Ga × Sto → Prop) (hit : ∀ i Γ M, Inv i Γ M → it M i = some (ds[i]?.map .dat))
    (step : ∀ i d Γ M, ds[i]? = some d → Inv i Γ M → ∃ Γ1 r, tg (.dat d) M Γ = some Γ1 ∧ body Γ1 M = some r ∧ Turned Inv Ret i r) :
    ∀ (k i : Nat) (Γ : Ga) (M : Sto), i + k = ds.length → Inv i Γ M → ∃ r, forL it tg body (k + 1) i Γ M = some r ∧ (Ret r ∨ ∃ Γ' M', r = (.nx, Γ', M') ∧ Inv ds.length Γ' M')
  | 0, i, Γ, M, hk, h => by
    refine ⟨(.nx, Γ, M), ?_, .inr ⟨Γ, M, rfl, ?_⟩⟩
    · unfold forL
      rw [hit i Γ M h, List.getElem?_eq_none (by omega)]; rfl
    · have : i = ds.length := by omega
      rw [← this]; exact h
  | k + 1, i, Γ, M, hk, h => by
    have hd : ds[i]? = some ds[i] := List.getElem?_eq_getElem (by omega)
    obtain ⟨Γ1, ⟨fl, Γ2, M2⟩, e1, e2, t⟩ := step i _ Γ M hd h
    unfold forL
    simp only [hit i Γ M h, hd, Option.map_some, e1, e2, Option.bind_some]
    cases fl with
    | nx => exact forL_indP Inv Ret hit step k (i + 1) Γ2 M2 (by omega) t
    | ct => exact forL_indP Inv Ret hit step k (i + 1) Γ2 M2 (by omega) t
    | bk => exact ⟨_, rfl, .inl t⟩
    | rt s => exact ⟨_, rfl, .inl t⟩
    | ex s => exact ⟨_, rfl, .inl t⟩
theorem sFor_indP {fi : DI} {it : DIt} {tg : DG} {body : DS} {Γ : Ga} {M M1 : Sto} {ds : List D} (hi : fi Γ M = some ((it, ds.length), M1)) (Inv : Nat → Ga → Sto → Prop) (Ret : Fl × Ga × Sto → Prop) (hit : ∀ i Γ M, Inv i Γ M → it M i = some (ds[i]?.map .dat))
    (h0 : Inv 0 Γ M1) (step : ∀ i d Γ M, ds[i]? = some d → Inv i Γ M → ∃ Γ1 r, tg (.dat d) M Γ = some Γ1 ∧ body Γ1 M = some r ∧ Turned Inv Ret i r) :
    ∃ r, sFor fi tg body Γ M = some r ∧ (Ret r ∨ ∃ Γ' M', r = (.nx, Γ', M') ∧ Inv ds.length Γ' M') := by
  obtain ⟨r, e, h⟩ := forL_indP Inv Ret hit step ds.length 0 Γ M1 (by omega) h0
  refine ⟨r, ?_, h⟩
  unfold sFor
  rw [hi]
  exact e
theorem itP_at {n i : Nat} {M : Sto} {ds : List D} (h : M[n]? = some (.fl (.list ds))) : itP n M i = some (ds[i]?.map .dat) := by
  unfold itP
  simp only [h]


/-- the drawing def that every law has -/
def g_draw : FnT := dFun 5
  (sSeq (sSub (dBin oAdd (dIx (dVar 0) (dC (.int 3))) (dC (.int 1))) (dVar 0) (dC (.int 3)))
  (sSeq (sIf (tVal (dBin oGt (dIx (dVar 0) (dC (.int 2))) (dC (.int 0)))) (sSeq (sAsg 2 (dBin oMod (dCB bInt (dCons (dIx (dVar 0) (dC (.int 2))) dNil)) (dVar 1)))
  (sSeq (sSub (dBin oDiv (dIx (dVar 0) (dC (.int 2))) (dVar 1)) (dVar 0) (dC (.int 2)))
  (sRet (dVar 2)))) sNil)
  (sSeq (sAsg 3 (dC (.int 0)))
  (sSeq (sIf (tVal (dBin oGt (dLen (dIx (dVar 0) (dC (.int 0)))) (dC (.int 0)))) (sAsg 3 (dCB bAbs (dCons (dIx (dIx (dVar 0) (dC (.int 0))) (dBin oMod (dCB bInt (dCons (dIx (dVar 0) (dC (.int 1))) dNil)) (dLen (dIx (dVar 0) (dC (.int 0)))))) dNil))) sNil)
  (sSeq (sSub (dBin oAdd (dIx (dVar 0) (dC (.int 1))) (dC (.int 1))) (dVar 0) (dC (.int 1)))
  (sSeq (sIf (tVal (dBin oGe (dVar 3) (dBin oPow (dC (.int 10)) (dC (.int 18))))) (sSeq (sSub (dBin oDiv (dVar 3) (dVar 1)) (dVar 0) (dC (.int 2)))
  (sRet (dBin oMod (dCB bInt (dCons (dVar 3) dNil)) (dVar 1)))) sNil)
  (sSeq (sAsg 4 (dBin oMod (dCB bInt (dCons (dBin oAdd (dBin oMul (dBin oAdd (dVar 3) (dC (.int 1))) (dC (.int 48271))) (dBin oMul (dIx (dVar 0) (dC (.int 3))) (dC (.int 69621)))) dNil)) (dC (.int 2147483647))))
  (sSeq (sAsg 4 (dBin oMod (dCB bInt (dCons (dBin oAdd (dBin oAdd (dBin oMul (dVar 4) (dC (.int 16807))) (dBin oDiv (dVar 3) (dC (.int 97)))) (dIx (dVar 0) (dC (.int 3)))) dNil)) (dC (.int 2147483629))))
  (sRet (dBin oMod (dBin oDiv (dVar 4) (dC (.int 11))) (dVar 1))))))))))) false false

def stD (ns : List Int) (a r c : Int) : D := .list [.list (ns.map .int), .int a, .int r, .int c]
/-- a state to draw from -/
def IsSt (d : D) : Prop := ∃ ns a r c, d = stD ns a r c
theorem isSt0 (ns : List Int) : IsSt (state0 ns) := ⟨ns, 0, 0, 0, rfl⟩
theorem fmod_rng {a m : Int} (h : 0 < m) : 0 ≤ a.fmod m ∧ a.fmod m < m := ⟨Int.fmod_nonneg_of_pos a h, Int.fmod_lt_of_pos a h⟩
theorem draw_spec {d : D} {m : Int} (hs : IsSt d) (h : 0 < m) (h2 : m ≤ 1000000000000000000000000000000) : ∃ v d', g_draw [.ptr 0, .dat (.int m)] [.fl d] = some (.ok (.dat (.int v)), [.fl d']) ∧ 0 ≤ v ∧ v < m ∧ IsSt d' := by
  obtain ⟨ns, a, r, c, rfl⟩ := hs
  have hm0 : m ≠ 0 := by omega
  unfold g_draw stD
  by_cases hr : 0 < r
  · simp [hr, hm0, h, h2]
    exact ⟨_, _, ⟨rfl, rfl⟩, (fmod_rng h).1, (fmod_rng h).2, ns, _, _, _, rfl⟩
  · have fin : ∀ cell : Int, 0 ≤ cell → ∃ v d', (sqk (sSeq (sSub (dBin oAdd (dIx (dVar 0) (dC (.int 1))) (dC (.int 1))) (dVar 0) (dC (.int 1)))
        (sSeq (sIf (tVal (dBin oGe (dVar 3) (dBin oPow (dC (.int 10)) (dC (.int 18))))) (sSeq (sSub (dBin oDiv (dVar 3) (dVar 1)) (dVar 0) (dC (.int 2)))
        (sRet (dBin oMod (dCB bInt (dCons (dVar 3) dNil)) (dVar 1)))) sNil)
        (sSeq (sAsg 4 (dBin oMod (dCB bInt (dCons (dBin oAdd (dBin oMul (dBin oAdd (dVar 3) (dC (.int 1))) (dC (.int 48271))) (dBin oMul (dIx (dVar 0) (dC (.int 3))) (dC (.int 69621)))) dNil)) (dC (.int 2147483647))))
        (sSeq (sAsg 4 (dBin oMod (dCB bInt (dCons (dBin oAdd (dBin oAdd (dBin oMul (dVar 4) (dC (.int 16807))) (dBin oDiv (dVar 3) (dC (.int 97)))) (dIx (dVar 0) (dC (.int 3)))) dNil)) (dC (.int 2147483629))))
        (sRet (dBin oMod (dBin oDiv (dVar 4) (dC (.int 11))) (dVar 1)))))))
        (.nx, [some (.ptr 0), some (.dat (.int m)), none, some (.dat (.int cell)), none], [.fl (stD ns a r (c + 1))])).bind (fnOut false false 1) = some (.ok (.dat (.int v)), [.fl d']) ∧ 0 ≤ v ∧ v < m ∧ IsSt d' := by
      intro cell hc
      unfold stD
      by_cases h18 : 1000000000000000000 ≤ cell
      · simp [h18, hm0, h, h2]
        exact ⟨_, _, ⟨rfl, rfl⟩, (fmod_rng h).1, (fmod_rng h).2, ns, _, _, _, rfl⟩
      · simp [h18, hm0, h, h2]
        exact ⟨_, _, ⟨rfl, rfl⟩, (fmod_rng h).1, (fmod_rng h).2, ns, _, _, _, rfl⟩
    unfold stD at fin
    by_cases hl : 0 < ns.length
    · have hl0 : (ns.length : Int) ≠ 0 := by omega
      have hlp : 0 < (ns.length : Int) := by omega
      obtain ⟨h3, h4⟩ := fmod_rng (a := a) hlp
      obtain ⟨x, hx⟩ : ∃ x, ns[(a.fmod ns.length).toNat]? = some x := ⟨_, List.getElem?_eq_getElem (by omega)⟩
      have hmod : oMod (.int a) (.int ns.length) = some (.dat (.int (a.fmod ns.length))) := oMod_i hl0
      have hb : bAbs [.int x] = some (.dat (.int (if x < 0 then -x else x))) := rfl
      have hc : 0 ≤ (if x < 0 then -x else x) := by split <;> omega
      generalize (if x < 0 then -x else x) = cell at hb hc
      have := fin cell hc
      simp [hr, hl, hmod, h3, hx, hb, -bAbs_i] at this ⊢
      exact this
    · have := fin 0 (by omega)
      simp [hr, hl] at this ⊢
      exact this
end EL
namespace EL
open PySem PySem.Spec PyProof.Rows L2

theorem plainAll_mem : ∀ {ds : List D}, PyData.plainAll ds = true → ∀ d ∈ ds, d.plain = true
  | [], _, _, h => nomatch h
  | x :: xs, hp, d, h => by
    rw [PyData.plainAll, Bool.and_eq_true] at hp
    rcases List.mem_cons.mp h with rfl | h
    · exact hp.1
    · exact plainAll_mem hp.2 d h
def intD : D → Bool
  | .int _ => true
  | _ => false
def tupD : D → Option (List D)
  | .tuple xs => some xs
  | _ => none
def is3 : D → Bool
  | .tuple [_, _, _] => true
  | _ => false
def rowOk (m o : Int) : D → Bool
  | .tuple [.int a, .int b, .int c] => decide (0 ≤ a) && decide (a < m) && decide (0 ≤ b) && decide (b < o) && decide (0 < c)
  | _ => false
/-- a row's three numbers -/
abbrev Row := Int × Int × Int
def rowD (t : Row) : D := .tuple [.int t.1, .int t.2.1, .int t.2.2]
def InR (m o : Int) (t : Row) : Prop := 0 ≤ t.1 ∧ t.1 < m ∧ 0 ≤ t.2.1 ∧ t.2.1 < o ∧ 0 < t.2.2
theorem rowOk_rowD {m o : Int} {t : Row} (h : InR m o t) : rowOk m o (rowD t) = true := by
  obtain ⟨h1, h2, h3, h4, h5⟩ := h
  simp [rowD, rowOk, h1, h2, h3, h4, h5]
theorem rows_of {m o : Int} : ∀ {ds : List D}, (∀ d ∈ ds, rowOk m o d = true) → ∃ rs : List Row, ds = rs.map rowD ∧ ∀ t ∈ rs, InR m o t
  | [], _ => ⟨[], rfl, fun _ h => nomatch h⟩
  | d :: ds, h => by
    obtain ⟨rs, rfl, hr⟩ := rows_of fun e he => h e (List.mem_cons_of_mem _ he)
    have hd := h d List.mem_cons_self
    unfold rowOk at hd
    split at hd
    case h_2 => cases hd
    rename_i a b c
    simp only [Bool.and_eq_true, decide_eq_true_eq] at hd
    obtain ⟨⟨⟨⟨h1, h2⟩, h3⟩, h4⟩, h5⟩ := hd
    refine ⟨(a, b, c) :: rs, rfl, fun t ht => ?_⟩
    rcases List.mem_cons.mp ht with rfl | ht
    · exact ⟨h1, h2, h3, h4, h5⟩
    · exact hr t ht
/-- the place-th number of a row -/
def plc (p : Nat) (t : Row) : Int := if p = 0 then t.1 else t.2.1
/-- the sum of the weights of the rows at place i -/
def sumAt (p : Nat) (rs : List Row) (i : Nat) : Int := ((rs.filter fun t => decide (plc p t = (i : Int))).map fun t => t.2.2).sum
def sums (p : Nat) (rs : List Row) (n : Nat) : List Int := (List.range n).map (sumAt p rs)
theorem sumAt_snoc (p : Nat) (rs : List Row) (t : Row) (i : Nat) : sumAt p (rs ++ [t]) i = if plc p t = (i : Int) then sumAt p rs i + t.2.2 else sumAt p rs i := by
  unfold sumAt
  rw [List.filter_append]
  by_cases h : plc p t = (i : Int)
  · rw [if_pos h, List.filter_cons_of_pos (by simpa using h)]; simp
  · rw [if_neg h, List.filter_cons_of_neg (by simpa using h)]; simp
theorem sums_snoc (p : Nat) (rs : List Row) (t : Row) (n k : Nat) (hk : k < n) (ht : plc p t = (k : Int)) : sums p (rs ++ [t]) n = (sums p rs n).set k (sumAt p rs k + t.2.2) := by
  apply List.ext_getElem?
  intro i
  unfold sums
  by_cases hi : i = k
  · subst hi
    rw [List.getElem?_set_self (by simpa using hk), List.getElem?_map, List.getElem?_range hk]
    simp [sumAt_snoc, ht]
  · rw [List.getElem?_set_ne (Ne.symm hi), List.getElem?_map, List.getElem?_map]
    by_cases h : i < n
    · rw [List.getElem?_range h]
      simp [sumAt_snoc, ht]
      omega
    · rw [List.getElem?_eq_none (by simpa using h)]; rfl
def evenB : List Int → Bool
  | [] => false
  | s :: r => decide (0 < s) && r.all (· == s)
def unrow : D → Row
  | .tuple [.int a, .int b, .int c] => (a, b, c)
  | _ => (0, 0, 0)
def lt2 (s t : Row) : Bool := decide (s.1 < t.1 ∨ (s.1 = t.1 ∧ s.2.1 < t.2.1))
def asc (rs : List Row) : Bool := (rs.zip (rs.drop 1)).all fun p => lt2 p.1 p.2
def tieR (m o : Nat) (rs : List Row) : Bool := asc rs && (evenB (sums 0 rs m) && evenB (sums 1 rs o))
def tieB (m o : Nat) : D → Bool
  | .tuple ds => !ds.isEmpty && (ds.all (rowOk m o) && tieR m o (ds.map unrow))
  | _ => false
theorem unrow_rows (rs : List Row) : (rs.map rowD).map unrow = rs := by
  rw [List.map_map]
  exact (List.map_congr_left fun t _ => rfl).trans (List.map_id rs)
theorem inR_plc {m o : Nat} {t : Row} (h : InR m o t) : (∃ k : Nat, k < m ∧ plc 0 t = (k : Int)) ∧ ∃ k : Nat, k < o ∧ plc 1 t = (k : Int) := by
  obtain ⟨h1, h2, h3, h4, _⟩ := h
  exact ⟨⟨t.1.toNat, by omega, by show t.1 = _; omega⟩, ⟨t.2.1.toNat, by omega, by show t.2.1 = _; omega⟩⟩
theorem sums_ne {p n : Nat} {rs : List Row} (h : 0 < n) : sums p rs n ≠ [] := fun e => by
  have := congrArg List.length e
  simp [sums] at this
  omega
theorem sums_len {p n : Nat} {rs : List Row} : (sums p rs n).length = n := by simp [sums]
theorem asc_iff {rs : List Row} : asc rs = true ↔ ∀ j s t, rs[j]? = some s → rs[j + 1]? = some t → lt2 s t = true := by
  unfold asc
  rw [List.all_eq_true]
  constructor
  · intro h j s t h1 h2
    refine h (s, t) (List.mem_of_getElem? (i := j) ?_)
    rw [List.getElem?_zip_eq_some]
    exact ⟨h1, by rw [List.getElem?_drop, Nat.add_comm]; exact h2⟩
  · intro h p hp
    obtain ⟨j, hj⟩ := List.mem_iff_getElem?.mp hp
    rw [List.getElem?_zip_eq_some] at hj
    obtain ⟨h1, h2⟩ := hj
    rw [List.getElem?_drop, Nat.add_comm] at h2
    exact h j _ _ h1 h2
abbrev Pr := Int × Int
abbrev Cs := List (Pr × Int)
def kd (q : Pr) : D := .tuple [.int q.1, .int q.2]
def ent (e : Pr × Int) : D × D := (kd e.1, .int e.2)
def tab (cs : Cs) : D := .dict ((.none, .none) :: cs.map ent)
theorem nk_kd (q r : Pr) : nk (kd q) = nk (kd r) ↔ q = r := by
  obtain ⟨a, b⟩ := q
  obtain ⟨c, d⟩ := r
  simp [kd, nk, nks]
theorem keyOk_kd (q : Pr) : keyOk (kd q) = true := by
  simp [kd, keyOk, isKeys, isKey, nks, nk, NestedKey.depth, NestedKey.depthAll]
def look : Cs → Pr → Option Int
  | [], _ => none
  | e :: r, q => if e.1 = q then some e.2 else look r q
theorem dLook_ent (q : Pr) : ∀ cs : Cs, dLook (cs.map ent) (kd q) = (look cs q).map .int
  | [] => rfl
  | e :: r => by
    have ih := dLook_ent q r
    unfold dLook at ih ⊢
    rw [List.map_cons, List.find?_cons]
    unfold look
    by_cases h : e.1 = q
    · rw [if_pos h, decide_eq_true (show nk (ent e).1 = nk (kd q) from (nk_kd _ _).mpr h)]
      rfl
    · rw [if_neg h, decide_eq_false (show ¬ nk (ent e).1 = nk (kd q) from fun z => h ((nk_kd _ _).mp z))]
      exact ih
theorem look_none {q : Pr} : ∀ {cs : Cs}, look cs q = none ↔ q ∉ cs.map (·.1)
  | [] => by simp [look]
  | e :: r => by
    unfold look
    by_cases h : e.1 = q
    · simp [h]
    · rw [if_neg h, look_none (cs := r)]
      simp [h]
      intro; exact fun z => h z.symm
theorem dHas_ent (q : Pr) (cs : Cs) : dHas (cs.map ent) (kd q) = decide (q ∈ cs.map (·.1)) := by
  unfold dHas
  rw [Bool.eq_iff_iff, List.any_eq_true, decide_eq_true_iff, List.mem_map]
  constructor
  · rintro ⟨x, hx, h⟩
    obtain ⟨e, he, rfl⟩ := List.mem_map.mp hx
    exact ⟨e, he, (nk_kd _ _).mp (of_decide_eq_true h)⟩
  · rintro ⟨e, he, rfl⟩
    exact ⟨ent e, List.mem_map.mpr ⟨e, he, rfl⟩, decide_eq_true rfl⟩
/-- the weights of the keys of a kind -/
def W (P : Pr → Bool) (cs : Cs) : Int := ((cs.filter fun e => P e.1).map (·.2)).sum
theorem W_cons (P : Pr → Bool) (e : Pr × Int) (cs : Cs) : W P (e :: cs) = (if P e.1 = true then e.2 else 0) + W P cs := by
  unfold W
  by_cases h : P e.1 = true
  · simp [h]
  · simp [h]
theorem keyOk_t {a b : Int} : keyOk (.tuple [.int a, .int b]) = true := keyOk_kd (a, b)
theorem perm_ints {ys : List D} {its : List Int} (h : ys.Perm (its.map .int)) : ∃ ls : List Int, ys = ls.map PyData.int ∧ ls.Perm its := by
  refine ⟨ys.map fun d => match d with | .int i => i | _ => 0, ?_, ?_⟩
  · rw [List.map_map]
    refine (List.map_id ys).symm.trans (List.map_congr_left fun d hd => ?_)
    obtain ⟨i, _, rfl⟩ := List.mem_map.mp (h.mem_iff.mp hd)
    rfl
  · have := h.map fun d : D => match d with | .int i => i | _ => 0
    rw [List.map_map] at this
    refine this.trans ?_
    have e : its.map ((fun d : D => match d with | .int i => i | _ => 0) ∘ PyData.int) = its := (List.map_congr_left fun i _ => rfl).trans (List.map_id its)
    rw [e]
theorem alike_kd (p q : Pr) : PySem.W.alike (kd p) (kd q) = true := by simp [kd, PySem.W.alike, PySem.W.alikeAll]
theorem sortOk_kd {ks : List Pr} (h : ks.length ≤ LIM) : sortOk (ks.map kd) = true := by
  unfold sortOk
  simp only [Bool.and_eq_true, decide_eq_true_eq, Bool.or_eq_true, List.all_eq_true]
  refine ⟨⟨⟨fun d hd e he => ?_, .inl fun d hd => ?_⟩, fun d hd => ?_⟩, by rw [List.length_map]; exact h⟩
  · obtain ⟨p, _, rfl⟩ := List.mem_map.mp hd
    obtain ⟨q, _, rfl⟩ := List.mem_map.mp he
    exact alike_kd p q
  · obtain ⟨p, _, rfl⟩ := List.mem_map.mp hd
    rfl
  · obtain ⟨p, _, rfl⟩ := List.mem_map.mp hd
    simp [kd, PyData.plain, PyData.plainAll, PyData.depth, PyData.depthAll]
def le2 (p q : Pr) : Bool := decide (p.1 < q.1 ∨ (p.1 = q.1 ∧ p.2 ≤ q.2))
theorem srt_kd (ks : List Pr) : srt (ks.map kd) = (ks.mergeSort le2).map kd := by
  unfold srt
  refine (List.map_mergeSort fun a _ b _ => ?_).symm
  exact (congrFun (congrFun (PySem.W.dataLe_ii (fun q : Pr => q.1) fun q : Pr => q.2) a) b).symm
theorem le2_sorted (ks : List Pr) : (ks.mergeSort le2).Pairwise fun p q => le2 p q = true := by
  refine List.pairwise_mergeSort (fun a b c h1 h2 => ?_) (fun a b => ?_) ks
  · unfold le2 at h1 h2 ⊢
    rw [decide_eq_true_iff] at h1 h2 ⊢
    omega
  · unfold le2
    rw [Bool.or_eq_true, decide_eq_true_iff, decide_eq_true_iff]
    omega
/-- the row of a key -/
def rowOf (cs : Cs) (q : Pr) : Row := (q.1, q.2, (look cs q).getD 0)
theorem look_mem {cs : Cs} (hn : (cs.map (·.1)).Nodup) {e : Pr × Int} (he : e ∈ cs) : look cs e.1 = some e.2 := by
  induction cs with
  | nil => cases he
  | cons x r ih =>
    rw [List.map_cons, List.nodup_cons] at hn
    unfold look
    rcases List.mem_cons.mp he with rfl | he
    · rw [if_pos rfl]
    · rw [if_neg, ih hn.2 he]
      intro z
      exact hn.1 (z ▸ List.mem_map.mpr ⟨e, he, rfl⟩)
theorem rows_keys {cs : Cs} (hn : (cs.map (·.1)).Nodup) : (cs.map (·.1)).map (rowOf cs) = cs.map fun e => (e.1.1, e.1.2, e.2) := by
  rw [List.map_map]
  refine List.map_congr_left fun e he => ?_
  show (e.1.1, e.1.2, (look cs e.1).getD 0) = _
  rw [look_mem hn he]; rfl
theorem perm_sum {a b : List Int} (h : a.Perm b) : a.sum = b.sum := by
  induction h with
  | nil => rfl
  | cons x _ ih => simp [ih]
  | swap x y l => simp; omega
  | trans _ _ h1 h2 => rw [h1, h2]
theorem sumAt_perm {rs rs' : List Row} (h : rs.Perm rs') (p i : Nat) : sumAt p rs i = sumAt p rs' i := perm_sum ((h.filter _).map _)
theorem sumAt_W {cs : Cs} (p i : Nat) : sumAt p (cs.map fun e => (e.1.1, e.1.2, e.2)) i = W (fun q => decide ((if p = 0 then q.1 else q.2) = (i : Int))) cs := by
  unfold sumAt W
  rw [List.filter_map, List.map_map]
  rfl
theorem evenB_rep {n : Nat} {c : Int} (hn : 0 < n) (hc : 0 < c) {ss : List Int} (h : ss.length = n) (hs : ∀ x ∈ ss, x = c) : evenB ss = true := by
  cases ss with
  | nil => simp at h; omega
  | cons s r =>
    have h1 := hs s List.mem_cons_self
    subst h1
    show (decide (0 < s) && r.all (· == s)) = true
    rw [decide_eq_true hc, Bool.true_and, List.all_eq_true]
    intro x hx
    rw [beq_iff_eq]
    exact hs x (List.mem_cons_of_mem _ hx)
def unkd : D → Pr
  | .tuple [.int a, .int b] => (a, b)
  | _ => (0, 0)
theorem asc_of {cs : Cs} {ps : List Pr} (hp : ps.Pairwise fun p q => le2 p q = true) (hn : ps.Nodup) : asc (ps.map (rowOf cs)) = true := by
  rw [asc_iff]
  intro j s t h1 h2
  rw [List.getElem?_map] at h1 h2
  obtain ⟨p, hp1, rfl⟩ := Option.map_eq_some_iff.mp h1
  obtain ⟨q, hq1, rfl⟩ := Option.map_eq_some_iff.mp h2
  obtain ⟨l1, e1⟩ := List.getElem?_eq_some_iff.mp hp1
  obtain ⟨l2, e2⟩ := List.getElem?_eq_some_iff.mp hq1
  have hle := List.pairwise_iff_getElem.mp hp j (j + 1) l1 l2 (by omega)
  have hne := List.pairwise_iff_getElem.mp hn j (j + 1) l1 l2 (by omega)
  rw [e1, e2] at hle hne
  unfold le2 at hle
  rw [decide_eq_true_iff] at hle
  show decide (p.1 < q.1 ∨ (p.1 = q.1 ∧ p.2 < q.2)) = true
  rw [decide_eq_true_iff]
  rcases hle with h | ⟨h, h'⟩
  · exact .inl h
  · refine .inr ⟨h, ?_⟩
    have : p.2 ≠ q.2 := fun z => hne (Prod.ext h z)
    omega
/-- what is known of a drawn tie -/
structure Tie (m o : Nat) (rs : List Row) : Prop where
  len : rs.length ≤ 200
  ne : rs ≠ []
  rng : ∀ t ∈ rs, InR m o t
  asc : asc rs = true
  e0 : evenB (sums 0 rs m) = true
  e1 : evenB (sums 1 rs o) = true
theorem tie_true {m o : Nat} {rs : List Row} (t : Tie m o rs) : tieB m o (.tuple (rs.map rowD)) = true := by
  show (!(rs.map rowD).isEmpty && ((rs.map rowD).all (rowOk m o) && (asc ((rs.map rowD).map unrow) && (evenB (sums 0 ((rs.map rowD).map unrow) m) && evenB (sums 1 ((rs.map rowD).map unrow) o))))) = true
  rw [unrow_rows, t.asc, t.e0, t.e1]
  have h1 : (rs.map rowD).all (rowOk m o) = true := List.all_eq_true.mpr fun d hd => by
    obtain ⟨r, hr, rfl⟩ := List.mem_map.mp hd
    exact rowOk_rowD (t.rng r hr)
  have h2 : (rs.map rowD).isEmpty = false := by
    cases rs with
    | nil => exact absurd rfl t.ne
    | cons _ _ => rfl
  rw [h1, h2]; rfl
theorem plainAll_iff : ∀ {ds : List D}, PyData.plainAll ds = true ↔ ∀ d ∈ ds, d.plain = true
  | [] => by simp [PyData.plainAll]
  | x :: xs => by simp [PyData.plainAll, plainAll_iff (ds := xs)]
theorem rows_plain (rs : List Row) : ∀ d ∈ rs.map rowD, d.plain = true := fun d h => by
  obtain ⟨t, _, rfl⟩ := List.mem_map.mp h
  simp [rowD, PyData.plain, PyData.plainAll]
end EL
namespace EL
open PySem PySem.Spec PyProof.Rows L2

def g_is_int : FnT := dFun 1
  (sRet (dAnd (dUn (oIsi "int") (dVar 0)) (dUn oNot (dUn (oIsi "bool") (dVar 0))))) false false
def g_units : FnT := dFun 6
  (sSeq (sAsg 3 (dLstP dNil))
  (sSeq (sFor (iRng (dCons (dVar 2) dNil)) (gNm 4) (sExpr (dMethW "list" cAppend (dVar 3) (dCons (dCB bSum (dCons (dComp (iSeq (dVar 0)) (cStep (gNm 5) (tVal (dBin oEq (dIx (dVar 5) (dVar 1)) (dVar 4))) [5] (dIx (dVar 5) (dC (.int 2))))) dNil)) dNil))))
  (sRet (dVar 3)))) false false
def g_is_tie : FnT := dFun 7
  (sSeq (sIf (tOr_ (tNot_ (tTru (dUn (oIsi "tuple") (dVar 0)))) (tVal (dBin oEq (dVar 0) (dTup dNil)))) (sRet (dC (.bool false))) sNil)
  (sSeq (sFor (iSeq (dVar 0)) (gNm 3) (sSeq (sIf (tOr_ (tNot_ (tTru (dUn (oIsi "tuple") (dVar 3)))) (tOr_ (tVal (dBin oNe (dLen (dVar 3)) (dC (.int 3)))) (tNot_ (tTru (dCB bAll (dCons (dComp (iSeq (dVar 3)) (cStep (gNm 6) tYes_ [6] (dCall g_is_int (dCons (dVar 6) dNil)))) dNil)))))) (sRet (dC (.bool false))) sNil)
  (sIf (tOr_ (tVal (dBin oLt (dIx (dVar 3) (dC (.int 0))) (dC (.int 0)))) (tOr_ (tVal (dBin oGe (dIx (dVar 3) (dC (.int 0))) (dVar 1))) (tOr_ (tVal (dBin oLt (dIx (dVar 3) (dC (.int 1))) (dC (.int 0)))) (tOr_ (tVal (dBin oGe (dIx (dVar 3) (dC (.int 1))) (dVar 2))) (tVal (dBin oLt (dIx (dVar 3) (dC (.int 2))) (dC (.int 1)))))))) (sRet (dC (.bool false))) sNil)))
  (sSeq (sFor (iRng (dCons (dBin oSub (dLen (dVar 0)) (dC (.int 1))) dNil)) (gNm 4) (sIf (tVal (dBin oGe (dSl (dIx (dVar 0) (dVar 4)) oN (oS (dC (.int 2)))) (dSl (dIx (dVar 0) (dBin oAdd (dVar 4) (dC (.int 1)))) oN (oS (dC (.int 2)))))) (sRet (dC (.bool false))) sNil))
  (sSeq (sFor (iSeq (dLst (dCons (dCall g_units (dCons (dVar 0) (dCons (dC (.int 0)) (dCons (dVar 1) dNil)))) (dCons (dCall g_units (dCons (dVar 0) (dCons (dC (.int 1)) (dCons (dVar 2) dNil)))) dNil)))) (gNm 5) (sIf (tTru (dCB bAny (dCons (dComp (iSeq (dVar 5)) (cStep (gNm 6) tYes_ [6] (dOr (dBin oNe (dVar 6) (dIx (dVar 5) (dC (.int 0)))) (dBin oLt (dVar 6) (dC (.int 1)))))) dNil))) (sRet (dC (.bool false))) sNil))
  (sRet (dC (.bool true))))))) false false
def g_one_of : FnT := dFun 2
  (sRet (dIx (dVar 1) (dCall g_draw (dCons (dVar 0) (dCons (dLen (dVar 1)) dNil))))) false false
def h_same (gr : FnT) : FnT := dFun 3
  (sSeq (sIf (tTru (dUn (oIsi "tuple") (dVar 1))) (sSeq (sIf (tOr_ (tNot_ (tTru (dUn (oIsi "tuple") (dVar 0)))) (tVal (dBin oNe (dLen (dVar 0)) (dLen (dVar 1))))) (sRet (dC (.bool false))) sNil)
  (sRet (dCB bAll (dCons (dComp (iRng (dCons (dLen (dVar 1)) dNil)) (cStep (gNm 2) tYes_ [2] (dCall gr (dCons (dIx (dVar 0) (dVar 2)) (dCons (dIx (dVar 1) (dVar 2)) dNil))))) dNil)))) sNil)
  (sSeq (sIf (tTru (dUn (oIsi "str") (dVar 1))) (sRet (dAnd (dUn (oIsi "str") (dVar 0)) (dBin oEq (dVar 0) (dVar 1)))) sNil)
  (sRet (dAnd (dCall g_is_int (dCons (dVar 0) dNil)) (dBin oEq (dVar 0) (dVar 1)))))) false false
def r_same : Nat → FnT
  | 0 => fun _ _ => none
  | n + 1 => h_same (r_same n)
theorem law_is_int_spec {d : D} (h : d.plain = true) : g_is_int [.dat d] [] = some (.ok (.dat (.bool (intD d))), []) := by
  cases d <;> first | (simp [PyData.plain] at h; done) | simp [g_is_int, oIsi, isi, intD]
theorem units_spec {rs : List Row} {p n : Nat} (hp : p < 2) (hn : n ≤ 100) (hl : rs.length ≤ LIM) :
    g_units [.dat (.tuple (rs.map rowD)), .dat (.int p), .dat (.int n)] [] = some (.ok (.dat (.list ((sums p rs n).map .int))), []) := by
  obtain ⟨Γ', M', e, ⟨x, hΓ⟩, hM⟩ := sFor_all (fi := iRng (dCons (dVar 2) dNil)) (tg := gNm 4) (body := sExpr (dMethW "list" cAppend (dVar 3) (dCons (dCB bSum (dCons (dComp (iSeq (dVar 0)) (cStep (gNm 5) (tVal (dBin oEq (dIx (dVar 5) (dVar 1)) (dVar 4))) [5] (dIx (dVar 5) (dC (.int 2))))) dNil)) dNil)))
    (Γ := [some (.dat (.tuple (rs.map rowD))), some (.dat (.int p)), some (.dat (.int n)), some (.ptr 0), none, none]) (M := [.fl (.list [])]) (M1 := [.fl (.list [])]) (ds := rngD 0 n) (by simp; rw [rgw_1 (by omega) (by omega)]; simp [itR_rng])
    (fun i Γ M => (∃ x, Γ = [some (.dat (.tuple (rs.map rowD))), some (.dat (.int p)), some (.dat (.int n)), some (.ptr 0), x, none]) ∧ M = [.fl (.list (((sums p rs n).take i).map .int))]) ⟨⟨_, rfl⟩, rfl⟩ fun i d Γ M hd ⟨⟨x, hΓ⟩, hM⟩ => by
      subst hΓ hM
      have hi : i < n := by
        have := (List.getElem?_eq_some_iff.mp hd).1
        simpa using this
      rw [rngD_get hi] at hd
      cases hd
      refine ⟨_, _, _, rfl, ?_, ⟨some (.dat (.int (0 + i))), rfl⟩, rfl⟩
      have h1 : (sums p rs n).take (i + 1) = (sums p rs n).take i ++ [sumAt p rs i] := by
        rw [List.take_add_one]
        congr 1
        simp [sums, hi]
      have hc := dComp_map (fi := iSeq (dVar 0)) (tg := gNm 5) (own := [5]) (tt := tVal (dBin oEq (dIx (dVar 5) (dVar 1)) (dVar 4))) (te := dIx (dVar 5) (dC (.int 2)))
        (Γ := [some (.dat (.tuple (rs.map rowD))), some (.dat (.int p)), some (.dat (.int n)), some (.ptr 0), some (.dat (.int (0 + i))), none]) (m := false) (M0 := [.fl (.list (((sums p rs n).take i).map .int))]) (M := [.fl (.list (((sums p rs n).take i).map .int))]) (ds := rs.map rowD)
        (fun d => decide (plc p (unrow d) = (i : Int))) (fun d => .int (unrow d).2.2) (by simp) (by simpa using hl) fun d hd => by
          obtain ⟨t, _, rfl⟩ := List.mem_map.mp hd
          have hp' : p = 0 ∨ p = 1 := by omega
          rcases hp' with rfl | rfl <;> exact ⟨_, rfl, by simp [rowD, unrow, plc]; rfl, fun _ => by simp [rowD, unrow]⟩
      have hs : ((rs.map rowD).filter fun d => decide (plc p (unrow d) = (i : Int))).map (fun d => PyData.int (unrow d).2.2) = (((rs.filter fun t => decide (plc p t = (i : Int))).map fun t => t.2.2).map PyData.int) := by
        rw [List.filter_map, List.map_map, List.map_map]
        rfl
      rw [hs] at hc
      have hl2 : ((sums p rs n).take i).length < LIM := by simp [sums, lim_e]; omega
      have hsum : ((rs.filter fun t => decide (plc p t = (i : Int))).map fun t => t.2.2).sum = sumAt p rs i := rfl
      rw [h1]
      generalize ((rs.filter fun t => decide (plc p t = (i : Int))).map fun t => t.2.2) = ws at hc hsum
      generalize (sums p rs n).take i = fd at hc hl2
      simp at hc
      simp [hc, hl2, hsum]
  simp [g_units, lim_e, e, hΓ, hM]
  rw [List.take_of_length_le (by simp [sums])]
abbrev B1 : DS := (sSeq (sIf (tOr_ (tNot_ (tTru (dUn (oIsi "tuple") (dVar 3)))) (tOr_ (tVal (dBin oNe (dLen (dVar 3)) (dC (.int 3)))) (tNot_ (tTru (dCB bAll (dCons (dComp (iSeq (dVar 3)) (cStep (gNm 6) tYes_ [6] (dCall g_is_int (dCons (dVar 6) dNil)))) dNil)))))) (sRet (dC (.bool false))) sNil)
  (sIf (tOr_ (tVal (dBin oLt (dIx (dVar 3) (dC (.int 0))) (dC (.int 0)))) (tOr_ (tVal (dBin oGe (dIx (dVar 3) (dC (.int 0))) (dVar 1))) (tOr_ (tVal (dBin oLt (dIx (dVar 3) (dC (.int 1))) (dC (.int 0)))) (tOr_ (tVal (dBin oGe (dIx (dVar 3) (dC (.int 1))) (dVar 2))) (tVal (dBin oLt (dIx (dVar 3) (dC (.int 2))) (dC (.int 1)))))))) (sRet (dC (.bool false))) sNil))
theorem row_spec {d r : D} {m o : Nat} (h : r.plain = true) : B1 [some (.dat d), some (.dat (.int m)), some (.dat (.int o)), some (.dat r), none, none, none] [] =
    some (if rowOk m o r = true then .nx else .rt (.dat (.bool false)), [some (.dat d), some (.dat (.int m)), some (.dat (.int o)), some (.dat r), none, none, none], []) := by
  cases h3 : is3 r with
  | false =>
    have hn : rowOk m o r = false := by
      unfold rowOk
      split
      · cases h3
      · rfl
    cases r with
    | dict kvs => simp [PyData.plain] at h
    | tuple xs =>
      have hl : xs.length ≠ 3 := fun e => by
        match xs, e with
        | [a, b, c], _ => cases h3
      have hl2 : ((xs.length : Int) != 3) = true := by
        rw [bne_iff_ne]
        omega
      simp [oIsi, isi, hl2, hn]
    | _ => simp [oIsi, isi, hn]
  | true =>
    unfold is3 at h3
    split at h3
    case h_2 => cases h3
    rename_i x y z
    have hp := h
    rw [PyData.plain] at hp
    have hp := plainAll_mem hp
    have hc : dComp (iSeq (dVar 3)) (cStep (gNm 6) tYes_ [6] (dCall g_is_int (dCons (dVar 6) dNil))) false [some (.dat d), some (.dat (.int m)), some (.dat (.int o)), some (.dat (.tuple [x, y, z])), none, none, none] [] = some (.dat (.list ([intD x, intD y, intD z].map .bool)), []) := by
      have := dComp_all (m := false) (fi := iSeq (dVar 3)) (tg := gNm 6) (own := [6]) (te := dCall g_is_int (dCons (dVar 6) dNil)) (Γ := [some (.dat d), some (.dat (.int m)), some (.dat (.int o)), some (.dat (.tuple [x, y, z])), none, none, none]) (M0 := []) (M := []) (ds := [x, y, z]) (fun d => .bool (intD d)) (by simp) (by simp [lim_e]) fun d hd => ⟨_, rfl, by simp [law_is_int_spec (hp d hd)]⟩
      simpa using this
    have hb : bAll [.list ([intD x, intD y, intD z].map .bool)] = some (.dat (.bool (intD x && (intD y && intD z)))) := by
      rw [bAll_m]
      simp
    generalize [intD x, intD y, intD z].map PyData.bool = bs at hc hb
    simp [oIsi, isi, hc, hb]
    cases x <;> cases y <;> cases z <;> simp [intD, rowOk]
    rename_i a b c _
    by_cases h1 : a < 0
    · have : ¬ 0 ≤ a := by omega
      simp [h1, this]
    by_cases h2 : (m : Int) ≤ a
    · have : ¬ a < m := by omega
      simp [h1, h2, this]
    by_cases h3 : b < 0
    · have : ¬ 0 ≤ b := by omega
      simp [h1, h2, h3, this]
    by_cases h4 : (o : Int) ≤ b
    · have : ¬ b < o := by omega
      simp [h1, h2, h3, h4, this]
    by_cases h5 : c < 1
    · have : ¬ 0 < c := by omega
      simp [h1, h2, h3, h4, h5, this]
    have q : (0 ≤ a ∧ a < m ∧ 0 ≤ b ∧ b < o ∧ 0 < c) := by omega
    simp [h1, h2, h3, h4, h5, q]
abbrev B2 : DS := (sIf (tVal (dBin oGe (dSl (dIx (dVar 0) (dVar 4)) oN (oS (dC (.int 2)))) (dSl (dIx (dVar 0) (dBin oAdd (dVar 4) (dC (.int 1)))) oN (oS (dC (.int 2)))))) (sRet (dC (.bool false))) sNil)
theorem step2 {rs : List Row} {s t : Row} {j : Nat} {m o : D} {x : Option SV} (h1 : rs[j]? = some s) (h2 : rs[j + 1]? = some t) : B2 [some (.dat (.tuple (rs.map rowD))), some (.dat m), some (.dat o), x, some (.dat (.int (0 + (j : Nat)))), none, none] [] =
    some (if lt2 s t = true then .nx else .rt (.dat (.bool false)), [some (.dat (.tuple (rs.map rowD))), some (.dat m), some (.dat o), x, some (.dat (.int (0 + (j : Nat)))), none, none], []) := by
  have q1 : atI (rs.map rowD) ((j : Nat) : Int) = some (rowD s) := atI_nat (by rw [List.getElem?_map, h1]; rfl)
  have q2 : atI (rs.map rowD) (((j : Nat) : Int) + 1) = some (rowD t) := atI_nat (n := j + 1) (by rw [List.getElem?_map, h2]; rfl)
  have q3 : lt2 s t = decide (s.1 < t.1 ∨ (s.1 = t.1 ∧ s.2.1 < t.2.1)) := rfl
  have g1 : oGe (.tuple [.int s.1, .int s.2.1]) (.tuple [.int t.1, .int t.2.1]) = some (.dat (.bool (!lt2 s t))) := oGe_ii
  have c1 : cutL [PyData.int s.1, .int s.2.1, .int s.2.2] none (some 2) = [.int s.1, .int s.2.1] := cut_to (by decide)
  have c2 : cutL [PyData.int t.1, .int t.2.1, .int t.2.2] none (some 2) = [.int t.1, .int t.2.1] := cut_to (by decide)
  clear q3
  simp [q1, q2, -atI_nn]
  unfold rowD
  cases hs : lt2 s t <;> simp [c1, c2, g1, hs, -oGe_ii]
abbrev B3 : DS := (sIf (tTru (dCB bAny (dCons (dComp (iSeq (dVar 5)) (cStep (gNm 6) tYes_ [6] (dOr (dBin oNe (dVar 6) (dIx (dVar 5) (dC (.int 0)))) (dBin oLt (dVar 6) (dC (.int 1)))))) dNil))) (sRet (dC (.bool false))) sNil)
theorem step3 {ss : List Int} {d m o : D} {x y : Option SV} (h0 : ss ≠ []) (hl : ss.length ≤ LIM) : B3 [some (.dat d), some (.dat m), some (.dat o), x, y, some (.dat (.list (ss.map .int))), none] [] =
    some (if evenB ss = true then .nx else .rt (.dat (.bool false)), [some (.dat d), some (.dat m), some (.dat o), x, y, some (.dat (.list (ss.map .int))), none], []) := by
  cases ss with
  | nil => exact absurd rfl h0
  | cons s r =>
    have hc : dComp (iSeq (dVar 5)) (cStep (gNm 6) tYes_ [6] (dOr (dBin oNe (dVar 6) (dIx (dVar 5) (dC (.int 0)))) (dBin oLt (dVar 6) (dC (.int 1))))) false [some (.dat d), some (.dat m), some (.dat o), x, y, some (.dat (.list ((s :: r).map .int))), none] [] = some (.dat (.list (((s :: r).map fun i => (i != s) || decide (i < 1)).map .bool)), []) := by
      have := dComp_all (m := false) (fi := iSeq (dVar 5)) (tg := gNm 6) (own := [6]) (te := (dOr (dBin oNe (dVar 6) (dIx (dVar 5) (dC (.int 0)))) (dBin oLt (dVar 6) (dC (.int 1))))) (Γ := [some (.dat d), some (.dat m), some (.dat o), x, y, some (.dat (.list ((s :: r).map .int))), none]) (M0 := []) (M := []) (ds := (s :: r).map .int)
        (fun d => match d with | .int i => .bool ((i != s) || decide (i < 1)) | _ => .none) (by simp) (by simpa using hl) fun d hd => by
          obtain ⟨i, _, rfl⟩ := List.mem_map.mp hd
          refine ⟨_, rfl, ?_⟩
          by_cases hi : i = s <;> simp [hi]
      rw [this, List.map_map, List.map_map]
      rfl
    have ha : ((s :: r).map fun i => (i != s) || decide (i < 1)).any id = !evenB (s :: r) := by
      rw [List.any_map]
      unfold evenB
      rw [Bool.eq_iff_iff]
      simp only [List.any_eq_true, Function.comp, id, Bool.or_eq_true, bne_iff_ne, decide_eq_true_eq, Bool.not_eq_true', Bool.and_eq_false_iff, decide_eq_false_iff_not, List.all_eq_false, beq_iff_eq]
      constructor
      · rintro ⟨i, hi, h⟩
        rcases List.mem_cons.mp hi with rfl | hi
        · left; omega
        · by_cases hs : 0 < s
          · right; exact ⟨i, hi, by omega⟩
          · left; exact hs
      · rintro (h | ⟨i, hi, h⟩)
        · exact ⟨s, List.mem_cons_self, by omega⟩
        · exact ⟨i, List.mem_cons_of_mem _ hi, .inl h⟩
    generalize ((s :: r).map fun i => (i != s) || decide (i < 1)) = bs at hc ha
    generalize (s :: r).map PyData.int = sd at hc ⊢
    cases he : evenB (s :: r) <;> simp [hc, ha, he]
theorem law_is_tie_spec {d : D} {m o : Nat} (h : d.plain = true) (hL : ∀ ds, d = .tuple ds → ds.length ≤ 5000) (hm : 0 < m) (hm2 : m ≤ 100) (ho : 0 < o) (ho2 : o ≤ 100) : g_is_tie [.dat d, .dat (.int m), .dat (.int o)] [] = some (.ok (.dat (.bool (tieB m o d))), []) := by
  cases d with
  | dict kvs => simp [PyData.plain] at h
  | tuple ds =>
    have hl := hL ds rfl
    have hp := plainAll_mem (show PyData.plainAll ds = true by rw [PyData.plain] at h; exact h)
    cases hn : ds.isEmpty with
    | true => simp [g_is_tie, oIsi, isi, oEq_nil h, hn, tieB, lim_e]
    | false =>
      obtain ⟨r1, e1, hr1⟩ := sFor_ind (fi := iSeq (dVar 0)) (tg := gNm 3) (body := B1) (Γ := [some (.dat (.tuple ds)), some (.dat (.int m)), some (.dat (.int o)), none, none, none, none]) (M := []) (M1 := []) (ds := ds) (by simp)
        (fun i Γ M => (∃ x, Γ = [some (.dat (.tuple ds)), some (.dat (.int m)), some (.dat (.int o)), x, none, none, none]) ∧ M = [] ∧ ∀ d ∈ ds.take i, rowOk m o d = true)
        (fun r => (∃ Γ, r = (.rt (.dat (.bool false)), Γ, [])) ∧ ds.all (rowOk m o) = false) ⟨⟨_, rfl⟩, rfl, fun d hd => by simp at hd⟩ fun i d Γ M hd ⟨⟨x, hΓ⟩, hM, hall⟩ => by
          subst hΓ hM
          refine ⟨_, _, rfl, row_spec (hp d (List.mem_of_getElem? hd)), ?_⟩
          cases hk : rowOk m o d with
          | true =>
            refine ⟨⟨_, rfl⟩, rfl, fun e he => ?_⟩
            rw [List.take_add_one, hd] at he
            rcases List.mem_append.mp he with he | he
            · exact hall e he
            · have : e = d := by simpa using he
              rw [this]; exact hk
          | false =>
            refine ⟨⟨_, rfl⟩, ?_⟩
            rw [List.all_eq_false]
            exact ⟨d, List.mem_of_getElem? hd, by rw [hk]; exact Bool.false_ne_true⟩
      rcases hr1 with ⟨⟨Γ, rfl⟩, hbad⟩ | ⟨Γ, M, rfl, ⟨x, rfl⟩, rfl, hall⟩
      · simp [g_is_tie, oIsi, isi, oEq_nil h, hn, tieB, lim_e, e1, hbad]
      · rw [List.take_length] at hall
        have hok : ds.all (rowOk m o) = true := List.all_eq_true.mpr hall
        obtain ⟨rs, rfl, hr⟩ := rows_of hall
        have ht : tieB m o (.tuple (rs.map rowD)) = tieR m o rs := by
          unfold tieB
          simp only [hn, hok, unrow_rows]
          simp
        have hlr : rs.length ≤ 5000 := by simpa using hl
        have hpos : 0 < rs.length := by
          cases rs with
          | nil => cases hn
          | cons _ _ => simp
        obtain ⟨r2, e2, hr2⟩ := sFor_ind (fi := iRng (dCons (dBin oSub (dLen (dVar 0)) (dC (.int 1))) dNil)) (tg := gNm 4) (body := B2) (Γ := [some (.dat (.tuple (rs.map rowD))), some (.dat (.int m)), some (.dat (.int o)), x, none, none, none]) (M := []) (M1 := []) (ds := rngD 0 (rs.length - 1))
          (by simp; rw [rgw_1 (by omega) (by omega)]; rw [show ((rs.length : Int) - 1).toNat = rs.length - 1 by omega, rngD_length])
          (fun i Γ M => (∃ y, Γ = [some (.dat (.tuple (rs.map rowD))), some (.dat (.int m)), some (.dat (.int o)), x, y, none, none]) ∧ M = [] ∧ ∀ j s t, j < i → rs[j]? = some s → rs[j + 1]? = some t → lt2 s t = true)
          (fun r => (∃ Γ, r = (.rt (.dat (.bool false)), Γ, [])) ∧ asc rs = false) ⟨⟨_, rfl⟩, rfl, fun j s t hj => by omega⟩ fun i d Γ M hd ⟨⟨y, hΓ⟩, hM, hall⟩ => by
            subst hΓ hM
            have hi : i < rs.length - 1 := by
              have := (List.getElem?_eq_some_iff.mp hd).1
              simpa using this
            rw [rngD_get hi] at hd
            cases hd
            have g1 : rs[i]? = some (rs[i]'(by omega)) := List.getElem?_eq_getElem (by omega)
            have g2 : rs[i + 1]? = some (rs[i + 1]'(by omega)) := List.getElem?_eq_getElem (by omega)
            refine ⟨_, _, rfl, step2 g1 g2, ?_⟩
            cases hk : lt2 rs[i] rs[i + 1] with
            | true =>
              refine ⟨⟨_, rfl⟩, rfl, fun j s t hj h1 h2 => ?_⟩
              by_cases hji : j = i
              · subst hji
                rw [g1] at h1
                rw [g2] at h2
                cases h1
                cases h2
                exact hk
              · exact hall j s t (by omega) h1 h2
            | false =>
              refine ⟨⟨_, rfl⟩, ?_⟩
              cases ha : asc rs with
              | false => rfl
              | true => rw [asc_iff.mp ha i _ _ g1 g2] at hk; cases hk
        rcases hr2 with ⟨⟨Γ, rfl⟩, hbad⟩ | ⟨Γ, M, rfl, ⟨y, rfl⟩, rfl, hasc⟩
        · rw [ht]
          simp [g_is_tie, oIsi, isi, oEq_nil h, hn, lim_e, e1, e2, hbad, tieR, -List.isEmpty_map]
        · have hasc : asc rs = true := asc_iff.mpr fun j s t h1 h2 => hasc j s t (by
            have := (List.getElem?_eq_some_iff.mp h2).1
            simp; omega) h1 h2
          have u1 : g_units [.dat (.tuple (rs.map rowD)), .dat (.int 0), .dat (.int m)] [] = _ := units_spec (rs := rs) (p := 0) (n := m) (by omega) hm2 (by simp [lim_e]; omega)
          have u2 : g_units [.dat (.tuple (rs.map rowD)), .dat (.int 1), .dat (.int o)] [] = _ := units_spec (rs := rs) (p := 1) (n := o) (by omega) ho2 (by simp [lim_e]; omega)
          have s1 := fun (x y : Option SV) => step3 (ss := sums 0 rs m) (d := .tuple (rs.map rowD)) (m := .int m) (o := .int o) (x := x) (y := y) (sums_ne hm) (by rw [sums_len]; simp [lim_e]; omega)
          have s2 := fun (x y : Option SV) => step3 (ss := sums 1 rs o) (d := .tuple (rs.map rowD)) (m := .int m) (o := .int o) (x := x) (y := y) (sums_ne ho) (by rw [sums_len]; simp [lim_e]; omega)
          have e3 : sFor (iSeq (dLst (dCons (dCall g_units (dCons (dVar 0) (dCons (dC (.int 0)) (dCons (dVar 1) dNil)))) (dCons (dCall g_units (dCons (dVar 0) (dCons (dC (.int 1)) (dCons (dVar 2) dNil)))) dNil)))) (gNm 5) B3 [some (.dat (.tuple (rs.map rowD))), some (.dat (.int m)), some (.dat (.int o)), x, y, none, none] [] =
              some (if (evenB (sums 0 rs m) && evenB (sums 1 rs o)) = true then .nx else .rt (.dat (.bool false)), [some (.dat (.tuple (rs.map rowD))), some (.dat (.int m)), some (.dat (.int o)), x, y, some (.dat (.list ((if evenB (sums 0 rs m) = true then sums 1 rs o else sums 0 rs m).map .int))), none], []) := by
            have hi : iSeq (dLst (dCons (dCall g_units (dCons (dVar 0) (dCons (dC (.int 0)) (dCons (dVar 1) dNil)))) (dCons (dCall g_units (dCons (dVar 0) (dCons (dC (.int 1)) (dCons (dVar 2) dNil)))) dNil))) [some (.dat (.tuple (rs.map rowD))), some (.dat (.int m)), some (.dat (.int o)), x, y, none, none] [] = some ((itD [.list ((sums 0 rs m).map .int), .list ((sums 1 rs o).map .int)], 2), []) := by
              generalize (sums 0 rs m).map PyData.int = q0 at u1
              generalize (sums 1 rs o).map PyData.int = q1 at u2
              simp [u1, u2, lim_e]
            unfold sFor
            rw [hi]
            have t1 : ∀ z : Option SV, gNm 5 (.dat (.list ((sums 0 rs m).map .int))) [] [some (.dat (.tuple (rs.map rowD))), some (.dat (.int m)), some (.dat (.int o)), x, y, z, none] = some [some (.dat (.tuple (rs.map rowD))), some (.dat (.int m)), some (.dat (.int o)), x, y, some (.dat (.list ((sums 0 rs m).map .int))), none] := fun _ => rfl
            have t2 : ∀ z : Option SV, gNm 5 (.dat (.list ((sums 1 rs o).map .int))) [] [some (.dat (.tuple (rs.map rowD))), some (.dat (.int m)), some (.dat (.int o)), x, y, z, none] = some [some (.dat (.tuple (rs.map rowD))), some (.dat (.int m)), some (.dat (.int o)), x, y, some (.dat (.list ((sums 1 rs o).map .int))), none] := fun _ => rfl
            have i0 : itD [PyData.list ((sums 0 rs m).map .int), .list ((sums 1 rs o).map .int)] [] 0 = some (some (.dat (.list ((sums 0 rs m).map .int)))) := rfl
            have i1 : itD [PyData.list ((sums 0 rs m).map .int), .list ((sums 1 rs o).map .int)] [] 1 = some (some (.dat (.list ((sums 1 rs o).map .int)))) := rfl
            have i2 : itD [PyData.list ((sums 0 rs m).map .int), .list ((sums 1 rs o).map .int)] [] 2 = some none := rfl
            cases h6 : evenB (sums 0 rs m) <;> cases h7 : evenB (sums 1 rs o) <;> simp only [Option.bind_some, forL, i0, i1, i2, t1, t2, s1, s2, h6, h7] <;> simp
          rw [ht]
          cases h6 : evenB (sums 0 rs m) <;> cases h7 : evenB (sums 1 rs o) <;> simp only [h6, h7] at e3 <;> simp [g_is_tie, oIsi, isi, oEq_nil h, hn, lim_e, e1, e2, e3, hasc, tieR, h6, h7, -List.isEmpty_map]
  | _ => simp [g_is_tie, oIsi, isi, tieB]

theorem one_of_spec {d : D} {xs : List D} (hs : IsSt d) (h0 : xs ≠ []) (hl : xs.length ≤ 10000) : ∃ x d', g_one_of [.ptr 0, .dat (.list xs)] [.fl d] = some (.ok (.dat x), [.fl d']) ∧ x ∈ xs ∧ IsSt d' := by
  have hp : 0 < xs.length := List.length_pos_iff.mpr h0
  obtain ⟨v, d2, e, g0, hv, hs2⟩ := draw_spec (m := xs.length) hs (by omega) (by omega)
  have hx : xs[v.toNat]? = some (xs[v.toNat]'(by omega)) := List.getElem?_eq_getElem (by omega)
  refine ⟨_, d2, ?_, List.getElem_mem (h := show v.toNat < xs.length by omega), hs2⟩
  simp [g_one_of, e, g0, hx]
/-- what is the same as itself -/
inductive Sm : Nat → D → Prop
  | int {n : Nat} (i : Int) : Sm (n + 1) (.int i)
  | str {n : Nat} (x : Str) : Sm (n + 1) (.str x)
  | tup {n : Nat} (ds : List D) (h : ∀ d ∈ ds, Sm n d) (hl : ds.length ≤ 1000000) : Sm (n + 1) (.tuple ds)
theorem Sm.mono {n : Nat} {d : D} (h : Sm n d) : Sm (n + 1) d := by
  induction h with
  | int i => exact .int i
  | str x => exact .str x
  | tup ds _ hl ih => exact .tup ds ih hl
theorem Sm.up {n k : Nat} {d : D} (h : Sm n d) : Sm (n + k) d := by
  induction k with
  | zero => exact h
  | succ k ih => exact ih.mono
theorem oEq_s {x : Str} : oEq (.str x) (.str x) = some (.dat (.bool true)) := by
  have ho : okEq (.str x) (.str x) = true := by simp [okEq, PyData.plain, PyData.depth]
  unfold oEq
  rw [if_pos ho]
  simp [PyData.eqv]
theorem same_ok : ∀ {n : Nat} {d : D}, Sm n d → r_same n [.dat d, .dat d] [] = some (.ok (.dat (.bool true)), []) := by
  intro n d h
  induction h with
  | int i => simp [r_same, h_same, oIsi, isi, g_is_int]
  | str x => simp [r_same, h_same, oIsi, isi, oEq_s]
  | @tup n ds _ hl ih =>
    have hi : iRng (dCons (dLen (dVar 1)) dNil) [some (.dat (.tuple ds)), some (.dat (.tuple ds)), none] [] = some ((itD (rngD 0 ds.length), (rngD 0 ds.length).length), []) := by
      simp
      rw [rgw_1 (by omega) (by omega)]
      simp [rngD_length]
    have hc := dComp_all (m := false) (tg := gNm 2) (own := [2]) (te := dCall (r_same n) (dCons (dIx (dVar 0) (dVar 2)) (dCons (dIx (dVar 1) (dVar 2)) dNil))) (fun _ => .bool true) hi (by simp [lim_e]; omega) fun d hd => by
      obtain ⟨i, hi⟩ := List.mem_iff_getElem?.mp hd
      have hl : i < ds.length := by
        have := (List.getElem?_eq_some_iff.mp hi).1
        simpa using this
      rw [rngD_get hl] at hi
      cases hi
      have h1 : atI ds (0 + (i : Int)) = some ds[i] := by
        rw [Int.zero_add]
        exact atI_nat (List.getElem?_eq_getElem hl)
      refine ⟨_, rfl, ?_⟩
      simp [ih ds[i] (List.getElem_mem hl), h1, -atI_nn, -Int.zero_add]
    have hb : bAll [.list ((rngD 0 ds.length).map fun _ => .bool true)] = some (.dat (.bool true)) := by
      have := bAll_m (bs := (rngD 0 ds.length).map fun _ => true)
      rw [List.map_map] at this
      refine this.trans ?_
      rw [List.all_map]
      simp
    simp at hc
    simp [r_same, h_same, oIsi, isi, hc, hb]
theorem sm_row (r : Row) {n : Nat} : Sm (n + 2) (rowD r) := .tup _ (fun d h => by
  simp only [List.mem_cons, List.not_mem_nil, or_false] at h
  rcases h with rfl | rfl | rfl <;> exact .int _) (by simp)
theorem sm_rows {rs : List Row} {n : Nat} (hl : rs.length ≤ 1000000) : Sm (n + 3) (.tuple (rs.map rowD)) := .tup _ (fun d h => by
  obtain ⟨r, _, rfl⟩ := List.mem_map.mp h
  exact sm_row r) (by simpa using hl)
end EL
namespace EL
open PySem PySem.Spec PyProof.Rows L2

/-- the cell's field -/
def obF (C f : Str) : Option Cell → Option SV
  | some (.ob C' fs) => if C' = C then fs.lookup f else none
  | _ => none
def putS (f : Str) (s : SV) : List (Str × SV) → List (Str × SV)
  | [] => [(f, s)]
  | (g, x) :: r => if g = f then (g, s) :: r else (g, x) :: putS f s r
def obPut (C f : Str) (s : SV) : Option Cell → Option Cell
  | some (.ob C' fs) => if C' = C ∧ fs.length < 1000 then some (.ob C (putS f s fs)) else none
  | _ => none
/-- the class of the cell, when nothing of it hides the method m -/
def obM (C m : Str) : Option Cell → Option Unit
  | some (.ob C' fs) => if C' = C ∧ fs.lookup m = none then some () else none
  | _ => none
def dFld (C f : Str) (fo : DE) : DE := fun Γ M => (fo Γ M).bind fun p => match p.1 with
  | .ptr n => (obF C f p.2[n]?).map fun s => (s, p.2)
  | _ => none
def sFldS (C f : Str) (fv fo : DE) : DS := fun Γ M => (fv Γ M).bind fun pv => (fo Γ pv.2).bind fun po => match po.1 with
  | .ptr n => (obPut C f pv.1 po.2[n]?).map fun d => (.nx, Γ, po.2.set n d)
  | _ => none
def dMethO (C m : Str) (g : FnT) (fo : DE) (fr : DA) : DE := fun Γ M => (fo Γ M).bind fun p => match p.1 with
  | .ptr n => (obM C m p.2[n]?).bind fun _ => (fr Γ p.2).bind fun q => (g (.ptr n :: q.1) q.2).bind okR
  | _ => none
def dMake (C : Str) (g : FnT) (fr : DA) : DE := fun Γ M => (fr Γ M).bind fun q => (g (.ptr q.2.length :: q.1) (q.2 ++ [.ob C []])).bind fun r => match r.1 with
  | .ok (.dat .none) => some (.ptr q.2.length, r.2)
  | _ => none
/-- a class of the module -/
structure ClsF (K : PySem.W.Frag) (mg : Str → Option Value) (C : Str) : Prop where
  ex : ∃ A, mg C = some (.ref A) ∧ Cls K A
/-- a field's name, not one of the class -/
structure FldF (K : PySem.W.Frag) (mg : Str → Option Value) (C f : Str) : Prop where
  ex : ∃ A, mg C = some (.ref A) ∧ Cls K A ∧ NoAttr K A f
structure DefM (P : Program) (w : World) (K : PySem.W.Frag) (mg : Str → Option Value) (base : Heap) (k : Nat) (C m : Str) (n : Nat) (g : FnT) : Prop where
  ex : ∃ (A f : Addr) (fd : FuncData) (ps : List Str), mg C = some (.ref A) ∧ Cls K A ∧ Meth K A m f ∧ FnOk P w K mg base (L2.CX P w) k f fd ps (spD ⟨P, w, K, mg, []⟩ n g) ∧ Binds K fd ps []
structure DefK (P : Program) (w : World) (K : PySem.W.Frag) (mg : Str → Option Value) (base : Heap) (k : Nat) (C : Str) (n : Nat) (g : FnT) : Prop where
  ex : ∃ (A f : Addr) (fd : FuncData) (ps : List Str), mg C = some (.ref A) ∧ Mk K A f ∧ FnOk P w K mg base (L2.CX P w) k f fd ps (spD ⟨P, w, K, mg, []⟩ n g) ∧ Binds K fd ps []
theorem IsTs.lkF {c : Ct} {ι : List Addr} {H : Hp} {f : Str} : ∀ {xs : List (Str × V)} {fs : List (Str × SV)}, IsTs c ι H xs fs → (∀ s, fs.lookup f = some s → ∃ v, xs.lookup f = some v ∧ IsS c ι H v s) ∧ (fs.lookup f = none → xs.lookup f = none)
  | _, _, .nil => ⟨(fun s h => nomatch h), fun _ => rfl⟩
  | (g, v) :: xs, (_, s) :: fs, .cons h t => by
    obtain ⟨h1, h2⟩ := IsTs.lkF (f := f) t
    by_cases e : (f == g) = true
    · refine ⟨fun s' h' => ?_, fun h' => ?_⟩
      · rw [List.lookup_cons, e] at h'
        cases h'
        exact ⟨v, by rw [List.lookup_cons, e], h⟩
      · rw [List.lookup_cons, e] at h'
        cases h'
    · have e : (f == g) = false := by simpa using e
      refine ⟨fun s' h' => ?_, fun h' => ?_⟩
      · rw [List.lookup_cons, e] at h'
        obtain ⟨v', a, b⟩ := h1 s' h'
        exact ⟨v', by rw [List.lookup_cons, e]; exact a, b⟩
      · rw [List.lookup_cons, e] at h'
        rw [List.lookup_cons, e]
        exact h2 h'
theorem IsTs.stF {c : Ct} {ι : List Addr} {H : Hp} {f : Str} {v : V} {s : SV} (h : IsS c ι H v s) : ∀ {xs : List (Str × V)} {fs : List (Str × SV)}, IsTs c ι H xs fs → IsTs c ι H (L2.putF f v xs) (putS f s fs)
  | _, _, .nil => .cons h .nil
  | (g, x) :: xs, (_, y) :: fs, .cons k t => by
    unfold L2.putF putS
    by_cases e : g = f
    · rw [if_pos e, if_pos e]
      exact .cons h t
    · rw [if_neg e, if_neg e]
      exact .cons k (IsTs.stF h t)
theorem IsTs.len {c : Ct} {ι : List Addr} {H : Hp} : ∀ {xs : List (Str × V)} {fs : List (Str × SV)}, IsTs c ι H xs fs → xs.length = fs.length
  | _, _, .nil => rfl
  | _, _, .cons _ t => by rw [List.length_cons, List.length_cons, IsTs.len t]
theorem Own.ins {c : Ct} {ι : List Addr} {H : Hp} {a A : Addr} {C : Str} {fs : List (Str × SV)} (h : Own c ι H a (.ob C fs)) (hm : c.mg C = some (.ref A)) : ∃ dx xs, H a = some (.ins A dx xs) ∧ IsTs c ι H xs fs := by
  cases h with
  | @ob A' dx _ xs _ h hm' t =>
    have e := hm.symm.trans hm'
    cases e
    exact ⟨dx, xs, h, t⟩
section
variable {X : Cx} {W : WX} {k j n : Nat} {C f m x : Str} {g : FnT} {o e : Expr} {es : List Expr} {fo fv : DE} {fr : DA} {p pos apos pos' : Pos}
theorem pd_fld (F : FldF X.K X.mg C f) (ho : PD X o fo) (hb : attributeBase o f X.env (eval o X.env) = eval o X.env := by rfl) : PD X (.Attribute o f pos) (dFld C f fo) := by
  obtain ⟨A, hm, c, na⟩ := F.ex
  refine PE.weak (pe_fld ho hb) fun σ H Q ⟨F', ι, Γ, M, s, M', w, e, q⟩ => ?_
  obtain ⟨⟨so, M1⟩, e1, e⟩ := Option.bind_eq_some_iff.mp e
  refine ⟨F', ι, Γ, M, so, M1, w, e1, fun v ι1 H1 x1 r1 i1 => ?_⟩
  cases so with
  | dat d => cases e
  | ptr n =>
    obtain ⟨s', e2, e⟩ := Option.map_eq_some_iff.mp e
    cases e
    unfold obF at e2
    split at e2
    case h_2 => cases e2
    rename_i C' fs hcell
    split at e2
    case isFalse => cases e2
    rename_i hC
    subst hC
    cases i1 with
    | @ptr a _ ha =>
      obtain ⟨dx, xs, h1, t⟩ := (r1.at_ n a _ ha hcell).ins (c := (ctx X).at F') hm
      obtain ⟨v', hl, hi⟩ := t.lkF.1 s e2
      exact ⟨a, A, dx, xs, v', rfl, h1, c, na, hl, q v' ι1 H1 x1 r1 hi⟩
theorem pds_fld (F : FldF X.K X.mg C f) (hv : PD X e fv) (ho : PD X o fo) (hs : swapsWith e (some (.Attribute o f pos')) pos.line X.env = pure false := by rfl) : PDS X W (.Assign [.Attribute o f pos'] e pos) (sFldS C f fv fo) := by
  obtain ⟨A, hm, c, na⟩ := F.ex
  refine PS.weak (ps_fld ho hv hs) fun E σ H ⟨F', ι, Γ, M, fl, Γ', M', w, e, k⟩ => ?_
  obtain ⟨⟨sv, M1⟩, e1, e⟩ := Option.bind_eq_some_iff.mp e
  obtain ⟨⟨so, M2⟩, e2, e⟩ := Option.bind_eq_some_iff.mp e
  refine ⟨F', ι, Γ, M, sv, M1, w, e1, fun v ι1 H1 x1 r1 i1 => ?_⟩
  refine ⟨F', ι1, Γ, M1, so, M2, w.next x1 r1, e2, fun u ι2 H2 x2 r2 i2 => ?_⟩
  cases so with
  | dat d => cases e
  | ptr n =>
    obtain ⟨d, e3, e⟩ := Option.map_eq_some_iff.mp e
    cases e
    unfold obPut at e3
    split at e3
    case h_2 => cases e3
    rename_i C' fs hcell
    split at e3
    case isFalse => cases e3
    rename_i hC
    obtain ⟨rfl, hlen⟩ := hC
    cases e3
    cases i2 with
    | @ptr a _ ha =>
      obtain ⟨dx, xs, h1, t⟩ := (r2.at_ n a _ ha hcell).ins (c := (ctx X).at F') hm
      refine ⟨a, A, dx, xs, rfl, h1, c, na, by rw [t.len]; exact hlen, ?_⟩
      have xw : Ext ι2 H2 ι2 (upd H2 a (.ins A dx (putF f v xs))) := Ext.write ha
      refine k ι2 σ _ ((x1.trans x2).trans xw) ((w.next (x1.trans x2) r2).next xw (r2.write ha (.ob upd_same hm ((IsTs.stF (i1.mono x2) t).mono xw))))
theorem pd_methO (D : DefM X.prog X.w X.K X.mg X.base j C m n g) (hr : Room k X.A) (ho : PD X o fo) (ha : PDA X (e :: es) fr) (hl : ∀ Γ M ss M', fr Γ M = some (ss, M') → ss.length + 1 = n) (hjk : j ≤ k := by decide) {pl : Sem Bool}
    (hst : starEach (e :: es) X.env = (false, eval e X.env) :: starEach es X.env := by rfl) (hpl : (backTo pos (starEach es X.env)).any (·.1) = false := by rfl)
    (ht : eval (.Call (.Attribute o m apos) (e :: es) [] pos) X.env = (do
      let ov ← eval o X.env
      standAt apos.atName
      let (f, first) ← holding [ov] (getMethod ov m pl)
      callWith pos f first (backTo pos (starEach (e :: es) X.env)) (backToKw pos (keywordEach [] X.env))) := by rfl) : PD X (.Call (.Attribute o m apos) (e :: es) [] pos) (dMethO C m g fo fr) := by
  obtain ⟨A, f, fd, ps, hm, c, me, F, hb⟩ := D.ex
  refine PE.weak (pe_meth (dvs := []) (ds := []) (E := E0) ho c me F (hr.mono hjk) hb .nil passL ha hst hpl ht) fun σ H Q ⟨F', ι, Γ, M, s, M', w, e, q⟩ => ?_
  obtain ⟨⟨so, M1⟩, e1, e⟩ := Option.bind_eq_some_iff.mp e
  refine ⟨F', ι, Γ, M, so, M1, w, e1, fun v ι1 H1 x1 r1 i1 => ?_⟩
  cases so with
  | dat d => cases e
  | ptr n =>
    obtain ⟨_, e2, e⟩ := Option.bind_eq_some_iff.mp e
    obtain ⟨⟨ss, M2⟩, e3, e⟩ := Option.bind_eq_some_iff.mp e
    obtain ⟨⟨r0, M3⟩, e4, e⟩ := Option.bind_eq_some_iff.mp e
    have e5 := okR_some e
    unfold obM at e2
    split at e2
    case h_2 => cases e2
    rename_i C' fs hcell
    split at e2
    case isFalse => cases e2
    rename_i hC
    obtain ⟨rfl, hno⟩ := hC
    cases i1 with
    | @ptr a _ ha =>
      obtain ⟨dx, xs, h1, t⟩ := (r1.at_ n a _ ha hcell).ins (c := (ctx X).at F') hm
      refine ⟨a, dx, xs, rfl, h1, t.lkF.2 hno, F', ι1, Γ, M1, ss, M2, w.next x1 r1, e3, fun vs ι2 H2 x2 r2 i2 => ?_⟩
      show spD _ _ _ (V.ref a :: (vs ++ [])) _ _ _
      rw [List.append_nil]
      have e4' : g (.ptr n :: ss) M2 = some (.ok s, M') := by
        rw [e5] at e4
        exact e4
      exact callW_ok (c := ctx X) (by rw [List.length_cons]; exact hl _ _ _ _ e3) r2 (.cons (.ptr (x2.at ha)) i2) e4' (fun s' hs => by cases hs; exact fun v ι3 H3 x3 r3 i3 => q v ι3 H3 ((x1.trans x2).trans x3) r3 i3) fun _ hs => nomatch hs
theorem pd_methO0 (D : DefM X.prog X.w X.K X.mg X.base j C m 1 g) (hr : Room k X.A) (ho : PD X o fo) (hjk : j ≤ k := by decide) {pl : Sem Bool}
    (ht : eval (.Call (.Attribute o m apos) [] [] pos) X.env = (do
      let ov ← eval o X.env
      standAt apos.atName
      let (f, first) ← holding [ov] (getMethod ov m pl)
      callWith pos f first (backTo pos (starEach [] X.env)) (backToKw pos (keywordEach [] X.env))) := by rfl) : PD X (.Call (.Attribute o m apos) [] [] pos) (dMethO C m g fo dNil) := by
  obtain ⟨A, f, fd, ps, hm, c, me, F, hb⟩ := D.ex
  refine PE.weak (pe_meth0 (dvs := []) (ds := []) (E := E0) ho c me F (hr.mono hjk) hb .nil passL ht) fun σ H Q ⟨F', ι, Γ, M, s, M', w, e, q⟩ => ?_
  obtain ⟨⟨so, M1⟩, e1, e⟩ := Option.bind_eq_some_iff.mp e
  refine ⟨F', ι, Γ, M, so, M1, w, e1, fun v ι1 H1 x1 r1 i1 => ?_⟩
  cases so with
  | dat d => cases e
  | ptr n =>
    obtain ⟨_, e2, e⟩ := Option.bind_eq_some_iff.mp e
    obtain ⟨⟨ss, M2⟩, e3, e⟩ := Option.bind_eq_some_iff.mp e
    cases e3
    obtain ⟨⟨r0, M3⟩, e4, e⟩ := Option.bind_eq_some_iff.mp e
    have e5 := okR_some e
    unfold obM at e2
    split at e2
    case h_2 => cases e2
    rename_i C' fs hcell
    split at e2
    case isFalse => cases e2
    rename_i hC
    obtain ⟨rfl, hno⟩ := hC
    cases i1 with
    | @ptr a _ ha =>
      obtain ⟨dx, xs, h1, t⟩ := (r1.at_ n a _ ha hcell).ins (c := (ctx X).at F') hm
      refine ⟨a, dx, xs, rfl, h1, t.lkF.2 hno, ?_⟩
      have e4' : g [.ptr n] M1 = some (.ok s, M') := by
        rw [e5] at e4
        exact e4
      exact callW_ok (c := ctx X) rfl r1 (.cons (.ptr ha) .nil) e4' (fun s' hs => by cases hs; exact fun v ι3 H3 x3 r3 i3 => q v ι3 H3 (x1.trans x3) r3 i3) fun _ hs => nomatch hs
theorem make_rep {c : Ct} {ι : List Addr} {H : Hp} {M : Sto} {A : Addr} (r : Rep c ι H M) (hm : c.mg C = some (.ref A)) {a dx : Addr} (h1 : H a = none) (h2 : H dx = none) (h3 : dx ≠ a) :
    Rep c (ι ++ [a]) (upd (upd H dx (.own a)) a (.ins A dx [])) (M ++ [.ob C []]) ∧ Ext ι H (ι ++ [a]) (upd (upd H dx (.own a)) a (.ins A dx [])) := by
  have h1' : upd H dx (.own a) a = none := by rw [upd_ne (Ne.symm h3)]; exact h1
  exact ⟨(r.new h2).newP h1' (.ob upd_same hm .nil), (Ext.new h2).trans (Ext.newP h1')⟩
theorem pd_make (D : DefK X.prog X.w X.K X.mg X.base j C n g) (hr : Room (k + 1) X.A) (hg : Gl X C) (ha : PDA X (e :: es) fr) (hl : ∀ Γ M ss M', fr Γ M = some (ss, M') → ss.length + 1 = n) (hjk : j ≤ k := by decide) (hdb : (C == ("__debug__" : Str)) = false := by decide)
    (he : starEach (e :: es) X.env = (false, eval e X.env) :: starEach es X.env := by rfl) (hpl : (backTo pos (starEach es X.env)).any (·.1) = false := by rfl) : PD X (.Call (.Name C p) (e :: es) [] pos) (dMake C g fr) := by
  obtain ⟨A, f, fd, ps, hm, mk, F, hb⟩ := D.ex
  refine PE.weak (pe_make (dvs := []) (ds := []) (E := E0) mk F (hr.mono (Nat.add_le_add_right hjk 1)) hg hm hb .nil passL ha hdb he hpl) fun σ H Q ⟨F', ι, Γ, M, s, M', w, e, q⟩ => ?_
  obtain ⟨⟨ss, M1⟩, e1, e⟩ := Option.bind_eq_some_iff.mp e
  obtain ⟨⟨r0, M2⟩, e2, e⟩ := Option.bind_eq_some_iff.mp e
  refine ⟨F', ι, Γ, M, ss, M1, w, e1, fun vs ι1 H1 x1 r1 i1 => ?_⟩
  intro a dx h1 h2 h3
  obtain ⟨r2, x2⟩ := make_rep (C := C) r1 (A := A) hm h1 h2 h3
  have hat : (ι1 ++ [a])[M1.length]? = some a := by
    rw [List.getElem?_append_right (by rw [r1.len]; exact Nat.le_refl _), r1.len, Nat.sub_self]; rfl
  show spD _ _ _ (V.ref a :: (vs ++ [])) _ _ _
  rw [List.append_nil]
  simp only at e
  split at e
  case h_2 => cases e
  cases e
  exact callW_ok (c := ctx X) (by rw [List.length_cons]; exact hl _ _ _ _ e1) r2 (.cons (.ptr hat) (i1.mono x2)) e2 (fun s' hs => by
    cases hs
    intro v ι3 H3 x3 r3 i3
    cases i3 with
    | dat i3 =>
      cases i3
      exact ⟨rfl, q _ ι3 H3 ((x1.trans x2).trans x3) r3 (.ptr (x3.at hat))⟩) fun _ hs => nomatch hs
theorem pd_make0 (D : DefK X.prog X.w X.K X.mg X.base j C 1 g) (hr : Room (k + 1) X.A) (hg : Gl X C) (hjk : j ≤ k := by decide) (hdb : (C == ("__debug__" : Str)) = false := by decide) : PD X (.Call (.Name C p) [] [] pos) (dMake C g dNil) := by
  obtain ⟨A, f, fd, ps, hm, mk, F, hb⟩ := D.ex
  refine PE.weak (pe_make0 (dvs := []) (ds := []) (E := E0) mk F (hr.mono (Nat.add_le_add_right hjk 1)) hg hm hb .nil passL hdb) fun σ H Q ⟨F', ι, Γ, M, s, M', w, e, q⟩ => ?_
  obtain ⟨⟨ss, M1⟩, e1, e⟩ := Option.bind_eq_some_iff.mp e
  cases e1
  obtain ⟨⟨r0, M2⟩, e2, e⟩ := Option.bind_eq_some_iff.mp e
  intro a dx h1 h2 h3
  obtain ⟨r2, x2⟩ := make_rep (C := C) w.rep (A := A) hm h1 h2 h3
  have hat : (ι ++ [a])[M.length]? = some a := by
    rw [List.getElem?_append_right (by rw [w.rep.len]; exact Nat.le_refl _), w.rep.len, Nat.sub_self]; rfl
  simp only at e
  split at e
  case h_2 => cases e
  cases e
  exact callW_ok (c := ctx X) rfl r2 (.cons (.ptr hat) .nil) e2 (fun s' hs => by
    cases hs
    intro v ι3 H3 x3 r3 i3
    cases i3 with
    | dat i3 =>
      cases i3
      exact ⟨rfl, q _ ι3 H3 (x2.trans x3) r3 (.ptr (x3.at hat))⟩) fun _ hs => nomatch hs
end
end EL
namespace EL
open PySem PySem.Spec PyProof.Rows L2

def strsD : List D → Option (List Str)
  | [] => some []
  | .str i :: r => (strsD r).map (i :: ·)
  | _ :: _ => none
theorem strsD_eq : ∀ {ds : List D} {ns : List Str}, strsD ds = some ns → ds = ns.map .str
  | [], ns, e => by cases e; rfl
  | .str i :: r, ns, e => by
    obtain ⟨ms, e1, rfl⟩ := Option.map_eq_some_iff.mp e
    rw [strsD_eq e1]; rfl
  | .none :: _, _, e => by cases e
  | .bool _ :: _, _, e => by cases e
  | .int _ :: _, _, e => by cases e
  | .list _ :: _, _, e => by cases e
  | .tuple _ :: _, _, e => by cases e
  | .dict _ :: _, _, e => by cases e
theorem strsD_map (ns : List Str) : strsD (ns.map .str) = some ns := by
  induction ns with
  | nil => rfl
  | cons n ns ih => rw [List.map_cons, strsD, ih]; rfl
def mSplit : D → List D → Option OR
  | .str a, [.str b] => if b.length ≠ 0 ∧ a.length + 2 ≤ LIM then some (.new (.list ((Txt.split a b).map .str))) else none
  | _, _ => none
def mWords : D → List D → Option OR
  | .str a, [] => if a.length + 2 ≤ LIM then some (.new (.list ((Txt.words a).map .str))) else none
  | _, _ => none
def mPart : D → List D → Option OR
  | .str a, [.str b] => if b.length ≠ 0 ∧ a.length ≤ LIM then some (.dat (.tuple [.str (Txt.partition a b).1, .str (Txt.partition a b).2.1, .str (Txt.partition a b).2.2])) else none
  | _, _ => none
def mJoin : D → List D → Option OR
  | .str a, [.list ds] => (strsD ds).bind fun ys => if (ys.map (·.length)).sum + ys.length * a.length ≤ LIM then some (.dat (.str (Txt.join a ys))) else none
  | .str a, [.tuple ds] => (strsD ds).bind fun ys => if (ys.map (·.length)).sum + ys.length * a.length ≤ LIM then some (.dat (.str (Txt.join a ys))) else none
  | _, _ => none
def mZfill : D → List D → Option OR
  | .str a, [.int i] => if PadOk i = true then some (.dat (.str (Txt.zfill a i))) else none
  | _, _ => none
def bStr : List D → Option OR
  | [.int i] => if i.natAbs.log2 < 1920 then some (.dat (.str (toString i))) else none
  | _ => none
section
variable {X : Cx} {o e a b c : Expr} {fo : DE} {fr : DA} {apos cpos p pos : Pos} {m : Bool}
theorem new_strs {c : Ct} {F ι : List Addr} {H : Hp} {M : Sto} {m : Bool} {Q : VK} {ys : List Str} (k : AftO (c.at F) ι H M m (.new (.list (ys.map .str))) Q) (rp : Rep (c.at F) ι H M) : rNewStrs ys H Q := fun p hp => k.newL rp (isDs_strs ys) hp
theorem pd_split (ho : PD X o fo) (ha : PDA X [e] fr) (hbase : attributeBase o "split" X.env (eval o X.env) = eval o X.env := by rfl) (hline : (apos.endLine == cpos.line) = true := by rfl) (hs : starEach [e] X.env = (false, eval e X.env) :: starEach [] X.env := by rfl)
    (hfew : ((backTo cpos (starEach [e] X.env)).all (fun x => !x.1) && (backToKw cpos (keywordEach [] X.env)).all (fun x => x.1.isSome)
      && decide ([e].length + ([] : List Keyword).length + (if ([] : List Keyword).isEmpty then 0 else 1) < 30)) = true := by rfl) : PD X (.Call (.Attribute o "split" apos) [e] [] cpos) (dMeth "str" mSplit fo fr m) :=
  pd_meth F.plainAttrs_str F.slot_str_split F.type_str_split mt_split (fun F ι H M m x xs d ds o Q rp R Rs e k => by
    unfold mSplit at e
    split at e
    · split at e
      · rename_i hl
        cases e
        cases R.str
        obtain ⟨v, rfl, R0⟩ := Rs.one
        cases R0.str
        refine ⟨_, _, rfl, rfl, ?_, lim_le hl.2, new_strs k rp⟩
        cases hz : (_ == 0) with
        | false => rfl
        | true => exact absurd (beq_iff_eq.mp hz) hl.1
      · cases e
    · cases e) ho ha hbase hfew hline hs rfl
theorem pd_words (ho : PD X o fo) (hbase : attributeBase o "split" X.env (eval o X.env) = eval o X.env := by rfl) (hline : (apos.endLine == cpos.line) = true := by rfl) : PD X (.Call (.Attribute o "split" apos) [] [] cpos) (dMeth "str" mWords fo dNil m) :=
  pd_meth0 F.plainAttrs_str F.slot_str_split F.type_str_split mt_words (fun F ι H M m x xs d ds o Q rp R Rs e k => by
    unfold mWords at e
    split at e
    · split at e
      · rename_i hl
        cases e
        cases R.str
        cases Rs
        exact ⟨_, rfl, rfl, lim_le hl, new_strs k rp⟩
      · cases e
    · cases e) ho hbase hline
theorem pd_part (ho : PD X o fo) (ha : PDA X [e] fr) (hbase : attributeBase o "partition" X.env (eval o X.env) = eval o X.env := by rfl) (hline : (apos.endLine == cpos.line) = true := by rfl) (hs : starEach [e] X.env = (false, eval e X.env) :: starEach [] X.env := by rfl)
    (hfew : ((backTo cpos (starEach [e] X.env)).all (fun x => !x.1) && (backToKw cpos (keywordEach [] X.env)).all (fun x => x.1.isSome)
      && decide ([e].length + ([] : List Keyword).length + (if ([] : List Keyword).isEmpty then 0 else 1) < 30)) = true := by rfl) : PD X (.Call (.Attribute o "partition" apos) [e] [] cpos) (dMeth "str" mPart fo fr) :=
  pd_meth F.plainAttrs_str F.slot_str_partition F.type_str_partition mt_partition (fun F ι H M m x xs d ds o Q rp R Rs e k => by
    unfold mPart at e
    split at e
    · split at e
      · rename_i hl
        cases e
        cases R.str
        obtain ⟨v, rfl, R0⟩ := Rs.one
        cases R0.str
        refine ⟨_, _, rfl, rfl, ?_, lim_le hl.2, fun p hp => k.newT rp (.cons (.str _) (.cons (.str _) (.cons (.str _) .nil))) hp⟩
        cases hz : (_ == 0) with
        | false => rfl
        | true => exact absurd (beq_iff_eq.mp hz) hl.1
      · cases e
    · cases e) ho ha hbase hfew hline hs rfl
theorem pd_join (ho : PD X o fo) (ha : PDA X [e] fr) (hbase : attributeBase o "join" X.env (eval o X.env) = eval o X.env := by rfl) (hline : (apos.endLine == cpos.line) = true := by rfl) (hs : starEach [e] X.env = (false, eval e X.env) :: starEach [] X.env := by rfl)
    (hfew : ((backTo cpos (starEach [e] X.env)).all (fun x => !x.1) && (backToKw cpos (keywordEach [] X.env)).all (fun x => x.1.isSome)
      && decide ([e].length + ([] : List Keyword).length + (if ([] : List Keyword).isEmpty then 0 else 1) < 30)) = true := by rfl) : PD X (.Call (.Attribute o "join" apos) [e] [] cpos) (dMeth "str" mJoin fo fr) :=
  pd_meth F.plainAttrs_str F.slot_str_join F.type_str_join mt_join (fun F ι H M m x xs d ds o Q rp R Rs e k => by
    unfold mJoin at e
    split at e
    · obtain ⟨ys, e1, e⟩ := Option.bind_eq_some_iff.mp e
      split at e
      · rename_i hl
        cases e
        cases R.str
        obtain ⟨v, rfl, R0⟩ := Rs.one
        obtain ⟨p, xs, rfl, hp, t⟩ := R0.lst
        rw [strsD_eq e1] at t
        rw [t.strs] at hp
        exact ⟨_, p, ys, rfl, rfl, .inl (.of hp), lim_le hl, k.dat rp (.str _)⟩
      · cases e
    · obtain ⟨ys, e1, e⟩ := Option.bind_eq_some_iff.mp e
      split at e
      · rename_i hl
        cases e
        cases R.str
        obtain ⟨v, rfl, R0⟩ := Rs.one
        obtain ⟨p, xs, rfl, hp, t, _⟩ := R0.tup
        rw [strsD_eq e1] at t
        rw [t.strs] at hp
        exact ⟨_, p, ys, rfl, rfl, .inr hp, lim_le hl, k.dat rp (.str _)⟩
      · cases e
    · cases e) ho ha hbase hfew hline hs rfl
theorem pd_zfill (ho : PD X o fo) (ha : PDA X [e] fr) (hbase : attributeBase o "zfill" X.env (eval o X.env) = eval o X.env := by rfl) (hline : (apos.endLine == cpos.line) = true := by rfl) (hs : starEach [e] X.env = (false, eval e X.env) :: starEach [] X.env := by rfl)
    (hfew : ((backTo cpos (starEach [e] X.env)).all (fun x => !x.1) && (backToKw cpos (keywordEach [] X.env)).all (fun x => x.1.isSome)
      && decide ([e].length + ([] : List Keyword).length + (if ([] : List Keyword).isEmpty then 0 else 1) < 30)) = true := by rfl) : PD X (.Call (.Attribute o "zfill" apos) [e] [] cpos) (dMeth "str" mZfill fo fr) :=
  pd_meth F.plainAttrs_str F.slot_str_zfill F.type_str_zfill mt_zfill (fun F ι H M m x xs d ds o Q rp R Rs e k => by
    unfold mZfill at e
    split at e
    · split at e
      · rename_i hl
        cases e
        cases R.str
        obtain ⟨v, rfl, R0⟩ := Rs.one
        cases R0.int
        exact ⟨_, _, rfl, rfl, hl, k.dat rp (.str _)⟩
      · cases e
    · cases e) ho ha hbase hfew hline hs rfl
theorem pd_str1 (hg : Gl X "str") (hm : X.mg "str" = none) (ha : PDA X [e] fr) (he : starEach [e] X.env = (false, eval e X.env) :: starEach [] X.env := by rfl) : PD X (.Call (.Name "str" p) [e] [] pos) (dCB bStr fr) :=
  pd_cty (T := "str") (fun F ι H M m xs ds o Q rp R e k => by
    unfold bStr at e
    split at e
    · split at e
      · rename_i hl
        cases e
        obtain ⟨v, rfl, R0⟩ := R.one
        cases R0.int
        exact ⟨_, rfl, hl, k.dat rp (.str _)⟩
      · cases e
    · cases e) call_str_int hg hm (by decide +kernel) ha (he := he) (hpl := rfl)
/-- divmod -/
def bDivmod : List D → Option OR
  | [.int i, .int j] => if 0 < j ∧ j.natAbs < 1073741824 then some (.dat (.tuple [.int (i / j), .int (i % j)])) else none
  | _ => none
end
def whileL (ft : DT) (body : DS) : Nat → Ga → Sto → Option (Fl × Ga × Sto)
  | 0, _, _ => none
  | k + 1, Γ, M => (ft Γ M).bind fun p => if p.1 = true then (body Γ p.2).bind fun r => match r.1 with
      | .nx => whileL ft body k r.2.1 r.2.2
      | .ct => whileL ft body k r.2.1 r.2.2
      | .bk => some (.nx, r.2.1, r.2.2)
      | .rt s => some (.rt s, r.2.1, r.2.2)
      | .ex s => some (.ex s, r.2.1, r.2.2)
    else some (.nx, Γ, p.2)
/-- at most n turns -/
def sWhile (n : Nat) (ft : DT) (body : DS) : DS := fun Γ M => whileL ft body n Γ M
theorem pds_while {n : Nat} {W : WX} {X : Cx} {t : Expr} {body : List Stmt} {ft : DT} {fb : DS} {pos : Pos} (hp : PassesOwn (model X.prog X.w) X.A X.env X.xe) (ht : PDT X t ft) (hb : PDSs X W body fb) : PDS X W (.While t body [] pos) (sWhile n ft fb) :=
  PS.weak (ps_while hp ht hb) fun E σ H ⟨F, ι, Γ, M, fl, Γ', M', w, e, k⟩ => by
    refine ⟨fun m σ2 H2 => ∃ ι2 Γ2 M2, Ext ι H ι2 H2 ∧ Wd ((ctx X).at F) ι2 σ2 H2 Γ2 M2 ∧ whileL ft fb m Γ2 M2 = some (fl, Γ', M'), ⟨n, ι, Γ, M, .refl, w, e⟩, ?_⟩
    rintro m σ2 H2 ⟨ι2, Γ2, M2, x2, w2, e2⟩
    cases m with
    | zero => cases e2
    | succ m =>
      rw [whileL] at e2
      obtain ⟨⟨b, M3⟩, e3, e2⟩ := Option.bind_eq_some_iff.mp e2
      refine ⟨F, ι2, Γ2, M2, b, M3, w2, e3, fun ι3 H3 x3 r3 => ?_⟩
      cases b with
      | true =>
        rw [if_pos rfl] at e2
        rw [if_pos rfl]
        obtain ⟨⟨f4, Γ4, M4⟩, e4, e2⟩ := Option.bind_eq_some_iff.mp e2
        refine ⟨fun σ5 H5 => ∃ ι5 Γ5 M5, Ext ι H ι5 H5 ∧ Wd ((ctx X).at F) ι5 σ5 H5 Γ5 M5 ∧ whileL ft fb m Γ5 M5 = some (fl, Γ', M'), fun σ5 H5 ⟨ι5, Γ5, M5, a, b, c⟩ => ⟨m, Nat.lt_succ_self m, ι5, Γ5, M5, a, b, c⟩, ?_⟩
        refine ⟨F, ι3, Γ2, M3, f4, Γ4, M4, w2.next x3 r3, e4, fun ι4 σ4 H4 x4 w4 => ?_⟩
        have xx := x2.trans (x3.trans x4)
        cases f4 with
        | nx => exact ⟨ι4, Γ4, M4, xx, w4, e2⟩
        | ct => exact ⟨ι4, Γ4, M4, xx, w4, e2⟩
        | bk => cases e2; exact k ι4 σ4 H4 xx w4
        | rt s => cases e2; exact k ι4 σ4 H4 xx w4
        | ex s => cases e2; exact k ι4 σ4 H4 xx w4
      | false =>
        rw [if_neg Bool.false_ne_true] at e2
        rw [if_neg Bool.false_ne_true]
        cases e2
        exact k ι3 σ2 H3 (x2.trans x3) (w2.next x3 r3)
/-- what is never come to -/
def sNever : DS := fun _ _ => none
def dNever : DE := fun _ _ => none
theorem pds_never {X : Cx} {W : WX} {st : Stmt} : PDS X W st sNever := ⟨fun _ _ _ _ _ _ h => by
  obtain ⟨_, _, _, _, _, _, _, _, e, _⟩ := h
  cases e⟩
theorem pd_never {X : Cx} {e : Expr} : PD X e dNever := ⟨fun _ _ _ _ _ _ h => by
  obtain ⟨_, _, _, _, _, _, _, e, _⟩ := h
  cases e⟩
end EL
namespace EL
open PySem PySem.Spec PyProof.Rows L2

abbrev TSt := SV → Sto → List (Key × SV) → Option (List (Key × SV) × Sto)
def itT (it : DIt) (step : TSt) : Nat → Nat → Sto → List (Key × SV) → Option (List (Key × SV) × Sto)
  | 0, _, _, _ => none
  | k + 1, i, M, acc => match it M i with
    | none => none
    | some none => some (acc, M)
    | some (some d) => (step d M acc).bind fun r => itT it step k (i + 1) r.2 r.1
def keyS : SV → Option Key
  | .dat d => keyK d
  | .ptr _ => none
def tStep (tg : DG) (tt : DT) (own : List Nat) (tk tv : DE) (Γ : Ga) : TSt := fun d M acc => (tg d M (wipeG Γ own)).bind fun Γ1 => (tt Γ1 M).bind fun b =>
  if b.1 = true then (tk Γ1 b.2).bind fun p => (tv Γ1 p.2).bind fun q => (keyS p.1).bind fun ky => if acc.length < LIM then some (tPut acc ky q.1, q.2) else none else some (acc, b.2)
/-- all values are data -/
def datsT : List (Key × SV) → Option (List (D × D))
  | [] => some []
  | (k, .dat d) :: r => (datsT r).map ((keyD k, d) :: ·)
  | (_, .ptr _) :: _ => none
def dcCell (acc : List (Key × SV)) : Cell := match datsT acc with
  | some kvs => .fl (.dict kvs)
  | none => .dc acc
def finT (m : Bool) (r : List (Key × SV) × Sto) : Option (SV × Sto) := if m = true then some (.ptr r.2.length, r.2 ++ [dcCell r.1]) else (datsT r.1).map fun kvs => (.dat (.dict kvs), r.2)
def dCompT (fi : DI) (step : Ga → TSt) (m : Bool := false) : DE := fun Γ M => (fi Γ M).bind fun p => (itT p.1.1 (step Γ) (p.1.2 + 1) 0 p.2 []).bind (finT m)
theorem datsT_ok {c : Ct} {ι : List Addr} {H : Hp} : ∀ {acc : List (Key × SV)} {kvs : List (D × D)} {xs : List (Key × V)}, datsT acc = some kvs → IsTs c ι H xs acc → IsKs c ι H xs kvs
  | [], _, _, e, t => by cases e; cases t; exact .nil
  | (k, .dat d) :: r, _, _, e, t => by
    obtain ⟨r', e', rfl⟩ := Option.map_eq_some_iff.mp e
    cases t with
    | cons h t => cases h with | dat h => exact .cons h (datsT_ok e' t)
  | (_, .ptr _) :: _, _, _, e, _ => by cases e
def CInvT (c : Ct) (F : List Addr) (ι1 : List Addr) (H1 : Hp) (Dp : Addr) (H : Hp) (M : Sto) (acc : List (Key × SV)) : Prop :=
  ∃ ι xs, Ext ι1 H1 ι H ∧ Rep (c.at (Dp :: F)) ι H M ∧ H Dp = some (.dK xs) ∧ IsTs (c.at (Dp :: F)) ι H xs acc
theorem IsKs.toF {c : Ct} {ι : List Addr} {H : Hp} {Dp : Addr} {F : List Addr} {xs : List (Key × V)} {kvs : List (D × D)} (h : IsKs (c.at (Dp :: F)) ι H xs kvs) : IsKs (c.at F) ι H xs kvs := h.sub (c := c) fun a h => h.imp (List.mem_cons_of_mem _) id
/-- an empty marker must not be read as one -/
theorem datsT_isN : ∀ {acc : List (Key × SV)} {kvs : List (D × D)}, datsT acc = some kvs → isN kvs = false
  | [], _, e => by cases e; rfl
  | (k, .dat d) :: r, _, e => by
    obtain ⟨r', e', rfl⟩ := Option.map_eq_some_iff.mp e
    cases k <;> rfl
  | (_, .ptr _) :: _, _, e => by cases e
theorem compT_end {c : Ct} {F ι1 : List Addr} {H1 H : Hp} {Dp : Addr} {M : Sto} {acc : List (Key × SV)} {m : Bool} {s : SV} {M' : Sto} {Q : VK} (hF : Dp ∉ F) (hD : H1 Dp = none) (q : CInvT c F ι1 H1 Dp H M acc) (e : finT m (acc, M) = some (s, M')) (k : Aft (c.at F) ι1 H1 M' s Q) : Q (.ref Dp) H := by
  obtain ⟨ι, xs, x, r, hp, t⟩ := q
  have hn : Dp ∉ ι := (r.fr Dp List.mem_cons_self).1
  unfold finT at e
  cases m with
  | true =>
    rw [if_pos rfl] at e
    cases e
    have own : Own (c.at (Dp :: F)) ι H Dp (dcCell acc) := by
      unfold dcCell
      split
      · rename_i kvs e
        exact .fl (.dK hp (datsT_ok e t))
      · exact .dc hp t
    exact k (.ref Dp) (ι ++ [Dp]) H (x.trans' hn hD) (r.showP hF own) (.ptr (ptr_last r.len))
  | false =>
    rw [if_neg Bool.false_ne_true] at e
    obtain ⟨kvs, e1, e⟩ := Option.map_eq_some_iff.mp e
    cases e
    exact k (.ref Dp) ι H x r.showD (.dat (.dK hp ⟨hF, hn⟩ (datsT_ok e1 t).toF))
theorem compT_turn {c : Ct} {F ι1 ι : List Addr} {σ : L2.St} {H1 H : Hp} {Γ : Ga} {M M' : Sto} {Dp : Addr} {g : DG} {tt : DT} {tk tv : DE} {own ts : List Nat} {d : SV} {xs : List (Key × V)} {acc acc' : List (Key × SV)} {v : V} {Nx : Hp → Prop} (ho : ∀ k ∈ ts, k ∈ own) (hD : H1 Dp = none)
    (w : Wd (c.at (Dp :: F)) ι σ H Γ M) (x : Ext ι1 H1 ι H) (hp : H Dp = some (.dK xs)) (t : IsTs (c.at (Dp :: F)) ι H xs acc) (hd : IsS (c.at (Dp :: F)) ι H v d) (e : tStep g tt own tk tv Γ d M acc = some (acc', M'))
    (k : ∀ ι' H' xs', Ext ι1 H1 ι' H' → Rep (c.at (Dp :: F)) ι' H' M' → H' Dp = some (.dK xs') → IsTs (c.at (Dp :: F)) ι' H' xs' acc' → Nx H') :
    rdG c ts g v (L2.wipe σ own) H fun σ2 H2 => L2.wipe σ2 own = L2.wipe σ own ∧ rdT c tt σ2 H2 fun b H3 => if b = true then rdE c tk σ2 H3 fun y H4 => rdE c tv σ2 H4 fun z H5 => ∃ kvs ky, y = kV ky ∧ H5 Dp = some (.dK kvs) ∧ kvs.length < sizeLine ∧ Nx (upd H5 Dp (.dK (putK kvs ky z))) else Nx H3 := by
  obtain ⟨Γ1, e1, e⟩ := Option.bind_eq_some_iff.mp e
  obtain ⟨⟨b, M4⟩, e2, e⟩ := Option.bind_eq_some_iff.mp e
  refine ⟨Dp :: F, ι, wipeG Γ own, M, d, Γ1, w.wipe own, hd, e1, fun σ3 a3 w3 => ⟨AtMost.wipe (a3.mono ho) |>.trans ?_, ?_⟩⟩
  · apply List.ext_getElem?
    intro j
    rw [wipe_at, wipe_at]
    by_cases hk : j ∈ own
    · rw [if_pos hk, if_pos hk]
      cases σ[j]? <;> rfl
    · rw [if_neg hk]
  · refine ⟨Dp :: F, ι, Γ1, M, b, M4, w3, e2, fun ι4 H4 x4 r4 => ?_⟩
    have hn : Dp ∉ ι := (w.rep.fr Dp List.mem_cons_self).1
    have hp4 := x4.keep Dp _ hn hp
    cases b with
    | false =>
      rw [if_neg Bool.false_ne_true] at e
      cases e
      exact iteF (k ι4 H4 xs (x.trans x4) r4 hp4 (t.mono x4))
    | true =>
      rw [if_pos rfl] at e
      obtain ⟨⟨s5, M5⟩, e5, e⟩ := Option.bind_eq_some_iff.mp e
      obtain ⟨⟨s6, M6⟩, e6, e⟩ := Option.bind_eq_some_iff.mp e
      obtain ⟨ky, e7, e⟩ := Option.bind_eq_some_iff.mp e
      split at e
      case isFalse => cases e
      rename_i hl
      cases e
      refine iteT ⟨Dp :: F, ι4, Γ1, M4, s5, M5, w3.next x4 r4, e5, fun v5 ι5 H5 x5 r5 i5 => ?_⟩
      refine ⟨Dp :: F, ι5, Γ1, M5, s6, M6, (w3.next x4 r4).next x5 r5, e6, fun v6 ι6 H6 x6 r6 i6 => ?_⟩
      have hn4 : Dp ∉ ι4 := (r4.fr Dp List.mem_cons_self).1
      have hn5 : Dp ∉ ι5 := (r5.fr Dp List.mem_cons_self).1
      have hk : v5 = kV ky := by
        cases s5 with
        | ptr n => cases e7
        | dat d5 =>
          cases i5 with
          | dat i5 =>
            have hd5 := keyK_some (show keyK d5 = some ky from e7)
            subst hd5
            exact keyK_V i5
      refine ⟨xs, ky, hk, x6.keep Dp _ hn5 (x5.keep Dp _ hn4 hp4), by rw [t.length]; exact lim_lt (Nat.le_of_lt hl), ?_⟩
      have hm : Dp ∈ (c.at (Dp :: F)).F := List.mem_cons_self
      have xx := x4.trans (x5.trans x6)
      have x1 := x.trans xx
      have dm : ∀ a, upd H6 Dp (.dK (putK xs ky v6)) a = none → H6 a = none := fun a h => by
        by_cases e : a = Dp
        · rw [e, upd_same] at h; cases h
        · rwa [upd_ne e] at h
      refine k ι6 _ (putK xs ky v6) ⟨x1.pre, fun a o n h => ?_, fun a h => x1.dom a (dm a h)⟩ (r6.writeF hm) upd_same ((t.mono xx).put i6 |>.updF hm)
      rw [upd_ne (ne_of_none h hD)]
      exact x1.keep a o n h
theorem rd_compT {c : Ct} {fi : DI} {ts own : List Nat} {g : DG} {tt : DT} {tk tv : DE} {σ : L2.St} {H : Hp} {Q : VK} {m : Bool} (ho : ∀ k ∈ ts, k ∈ own) (q : rdE c (dCompT fi (tStep g tt own tk tv) m) σ H Q) : tDc (rdI c fi) (rdG c ts g) (rdT c tt) (rdE c tk) (rdE c tv) own σ H Q := by
  obtain ⟨F, ι, Γ, M, s, M', w, e, k⟩ := q
  obtain ⟨⟨⟨it, n⟩, M1⟩, e1, e⟩ := Option.bind_eq_some_iff.mp e
  obtain ⟨⟨acc', Mr⟩, er, e⟩ := Option.bind_eq_some_iff.mp e
  refine ⟨F, ι, Γ, M, (it, n), M1, w, e1, fun J ι1 H1 x1 r1 j1 => ?_⟩
  intro Dp hD
  have w1 := w.next x1 r1
  have hF : Dp ∉ F := fun h => by
    obtain ⟨_, o, z⟩ := r1.fr Dp h
    rw [hD] at z; cases z
  refine ⟨fun i m H2 => ∃ M2 acc, CInvT c F ι1 H1 Dp H2 M2 acc ∧ itT it (tStep g tt own tk tv Γ) m i M2 acc = some (acc', Mr), ⟨n + 1, M1, [], ⟨ι1, [], .new hD, r1.hide hD, upd_same, .nil⟩, er⟩, ?_⟩
  rintro i m H2 ⟨M2, acc, ci, e2⟩
  obtain ⟨ι2, xs, x2, r2, hp, t⟩ := id ci
  cases m with
  | zero => cases e2
  | succ m =>
    obtain ⟨j2, j3⟩ := j1 (Dp :: F) ι2 H2 M2 i (fun a h => by
      rcases List.mem_cons.mp h with h | h
      · rw [h]; exact .inr hD
      · exact .inl h) x2.toF r2
    rw [itT] at e2
    split at e2
    · cases e2
    · rename_i hit
      cases e2
      exact .inl ⟨j2 hit, compT_end hF hD ci e fun v ι3 H3 x3 r3 i3 => k v ι3 H3 (x1.trans x3) r3 i3⟩
    · rename_i d hit
      obtain ⟨g1, g2⟩ := j3 d hit
      obtain ⟨⟨acc5, M5⟩, e3, e2⟩ := Option.bind_eq_some_iff.mp e2
      refine .inr ⟨g1, fun H5 => ∃ M5 acc5, CInvT c F ι1 H1 Dp H5 M5 acc5 ∧ itT it (tStep g tt own tk tv Γ) m (i + 1) M5 acc5 = some (acc', Mr), fun H5 ⟨M5, acc5, a, b⟩ => ⟨m, Nat.lt_succ_self m, M5, acc5, a, b⟩, fun x H3 y => ?_⟩
      obtain ⟨x3, r3, hd⟩ := g2 x H3 y
      have hn : Dp ∉ ι2 := (r2.fr Dp List.mem_cons_self).1
      exact compT_turn ho hD (w1.hide hD (x2.trans x3) r3) (x2.trans x3) (x3.keep Dp _ hn hp) (t.mono x3) hd e3 fun ι' H' xs' q1 q2 q3 q4 => ⟨M5, acc5, ⟨ι', xs', q1, q2, q3, q4⟩, e2⟩
section
variable {W : WX} {X : Cx} {kx vx tg iter : Expr} {ifs : List Expr} {scope : Scope} {pos : Pos} {fi : DI} {ts ow : List Nat} {g : DG} {tt : DT} {tk tv : DE} {m : Bool}
theorem pd_compT (own : List (Str × Nat)) (hc : X.calm = true) (hN : X.N.Nodup) (hi : PDI X tg iter fi) (ok : BlkOk X.N X.env.scope scope own)
    (hg : ∀ (s : Shared) (H : Hp) (C : Addr) (cl : List (Str × Addr)) (fp : List Addr), PDG (X.blk s H scope (compEnvC scope cl C X.env) fp) tg ts g) (ht : ∀ (s : Shared) (H : Hp) (C : Addr) (cl : List (Str × Addr)) (fp : List Addr), PDTs (X.blk s H scope (compEnvC scope cl C X.env) fp) ifs tt)
    (hk : ∀ (s : Shared) (H : Hp) (C : Addr) (cl : List (Str × Addr)) (fp : List Addr), PD (X.blk s H scope (compEnvC scope cl C X.env) fp) kx tk)
    (he : ∀ (s : Shared) (H : Hp) (C : Addr) (cl : List (Str × Addr)) (fp : List Addr), PD (X.blk s H scope (compEnvC scope cl C X.env) fp) vx tv) (hw : own.map (·.2) = ow := by rfl) (ho : ∀ k ∈ ts, k ∈ ow := by decide) (hs : ∀ x, foldedSetIterable iter X.env x = pure x := by intro _; rfl) :
    PD X (.DictComp kx vx [⟨tg, iter, ifs, 0⟩] scope pos) (dCompT fi (tStep g tt ow tk tv) m) := by
  subst hw
  exact PE.weak (pe_dc hc hN hi ok hg ht hk he hs) fun σ H Q q => rd_compT (c := ctx X) ho q
end
def cExtend : Cell → List SV → Option (Cell × SV)
  | .fl (.list xs), [.dat (.list ys)] => if xs.length + ys.length ≤ LIM then some (.fl (.list (xs ++ ys)), .dat .none) else none
  | _, _ => none
section
variable {X : Cx} {o e : Expr} {fo : DE} {fr : DA} {apos cpos : Pos}
theorem pd_extend (ho : PD X o fo) (ha : PDA X [e] fr) (hbase : attributeBase o "extend" X.env (eval o X.env) = eval o X.env := by rfl) (hline : (apos.endLine == cpos.line) = true := by rfl) (hs : starEach [e] X.env = (false, eval e X.env) :: starEach [] X.env := by rfl)
    (hfew : ((backTo cpos (starEach [e] X.env)).all (fun x => !x.1) && (backToKw cpos (keywordEach [] X.env)).all (fun x => x.1.isSome)
      && decide ([e].length + ([] : List Keyword).length + (if ([] : List Keyword).isEmpty then 0 else 1) < 30)) = true := by rfl) : PD X (.Call (.Attribute o "extend" apos) [e] [] cpos) (dMethW "list" cExtend fo fr) :=
  pd_methW PySem.F.plainAttrs_list PySem.F.slot_list_extend PySem.F.type_list_extend mt_extend (fun F ι H M a n xs d d' res ds Q r ha ow t e k => by
    unfold cExtend at e
    split at e
    · split at e
      · rename_i hl
        cases e
        cases ow with
        | fl ow =>
        cases ow with
        | @lst ys _ hp u =>
          cases t with
          | cons h t =>
            cases t
            cases h with
            | dat h =>
              cases h with
              | @lst b zs _ hb hnb tz =>
                obtain ⟨x1, r1⟩ := r.putL ha (u.append tz)
                exact ⟨a, b, ys, zs, rfl, rfl, hp, hb, by rw [u.length, tz.length]; exact lim_le hl, k _ _ x1 r1 (.dat .non)⟩
      · cases e
    · cases e) ho ha hbase hfew hline hs rfl
end
def itC (lo c : Int) (n : Nat) : DIt := fun _ i => some (if i < n then some (.dat (.int (lo + (i : Nat) * c))) else none)
theorem jok_rngC {c : Ct} {F0 ι0 : List Addr} {H0 : Hp} {lo st : Int} {n : Nat} : JOk c F0 ι0 H0 (Itc lo st n) (itC lo st n) := fun F ι H M i g x r => by
  refine ⟨fun e => ?_, fun d e => ?_⟩
  · have e := Option.some.inj e
    split at e
    · cases e
    · rename_i h
      exact Nat.le_of_not_lt h
  · have e := Option.some.inj e
    split at e
    · rename_i h
      cases e
      refine ⟨h, fun y H' ⟨q1, q2⟩ => ?_⟩
      subst q1 q2
      exact ⟨.refl, r, .dat (.int _)⟩
    · cases e
def iRngC (fr : DA) : DI := fun Γ M => (fr Γ M).bind fun p => match p.1 with
  | [.dat (.int i), .dat (.int j), .dat (.int c)] => if 0 < c ∧ c.natAbs < 1073741824 ∧ Builtin.Range.small i j c = true then some ((itC i c (Builtin.Range.rangeSize i j c).toNat, (Builtin.Range.rangeSize i j c).toNat), p.2) else none
  | _ => none
section
variable {X : Cx} {tg : Expr}
theorem rangeSize_nn {i j c : Int} (h : 0 < c) : ((Builtin.Range.rangeSize i j c).toNat : Int) = Builtin.Range.rangeSize i j c := by
  refine Int.toNat_of_nonneg ?_
  unfold Builtin.Range.rangeSize
  rw [if_pos h]
  split
  · have : 0 ≤ (j - i - 1) / c := Int.ediv_nonneg (by omega) (by omega)
    omega
  · exact Int.le_refl _
theorem pdi_rng3 {a b c : Expr} {fr : DA} {p pos : Pos} (hg : Gl X "range") (hm : X.mg "range" = none) (ha : PDA X [a, b, c] fr)
    (hs : starEach [a, b, c] X.env = (false, eval a X.env) :: starEach [b, c] X.env := by rfl) (hpl : (backTo pos (starEach [b, c] X.env)).any (·.1) = false := by rfl)
    (hl : ∀ Γ M ss M', fr Γ M = some (ss, M') → ss.length = 3) : PDI X tg (.Call (.Name "range" p) [a, b, c] [] pos) (iRngC fr) :=
  PI.weak (pi_range3 hg hm ha hs hpl) fun σ H R ⟨F, ι, Γ, M, it, M', w, e, k⟩ => by
    obtain ⟨⟨ss, M1⟩, e1, e⟩ := Option.bind_eq_some_iff.mp e
    refine ⟨F, ι, Γ, M, ss, M1, w, e1, fun vs ι1 H1 x1 r1 i1 => ?_⟩
    simp only at e
    split at e
    · split at e
      · rename_i hb
        cases e
        cases i1 with
        | cons h t =>
          cases t with
          | cons h' t =>
            cases t with
            | cons h'' t =>
              cases t
              cases h with
              | dat h =>
                cases h
                cases h' with
                | dat h' =>
                  cases h'
                  cases h'' with
                  | dat h'' =>
                    cases h''
                    exact ⟨_, _, _, _, rfl, ⟨by omega, hb.2.1, hb.2.2, (rangeSize_nn hb.1).symm⟩, k _ ι1 H1 x1 r1 jok_rngC⟩
      · cases e
    · cases e
end
structure TupC (K : PySem.W.Frag) (mg : Str → Option Value) (x : Str) (ys : List Str) : Prop where
  ex : ∃ (a : Addr) (o : Obj) (its : Array Value) (n : Nat), mg x = some (.ref a) ∧ K.lookup a = some o ∧ o.cls = .type "tuple" ∧ o.dict = none ∧ o.data = .seq its n ∧ its.size ≤ sizeLine ∧ Vals (ys.map V.str) its.toList
def strsB : List Value → List Str → Bool
  | [], [] => true
  | .str x _ :: r, y :: s => decide (x = y) && strsB r s
  | _, _ => false
theorem strsB_ok : ∀ {us : List Value} {ys : List Str}, strsB us ys = true → Vals (ys.map V.str) us
  | [], [], _ => .nil
  | .str x t :: r, y :: s, h => by
    rw [strsB, Bool.and_eq_true, decide_eq_true_eq] at h
    obtain ⟨rfl, h⟩ := h
    exact .cons ⟨t, rfl⟩ (strsB_ok h)
  | [], _ :: _, h => by cases h
  | u :: _, [], h => by cases u <;> cases h
  | .none :: _, _ :: _, h => by cases h
  | .bool _ :: _, _ :: _, h => by cases h
  | .int _ _ :: _, _ :: _, h => by cases h
  | .float _ _ :: _, _ :: _, h => by cases h
  | .bytes _ _ :: _, _ :: _, h => by cases h
  | .ref _ :: _, _ :: _, h => by cases h
  | .type _ :: _, _ :: _, h => by cases h
  | .builtin _ :: _, _ :: _, h => by cases h
def tupB (K : PySem.W.Frag) (x : Str) (ys : List Str) : Bool := match PySem.W.nsIn K mainGlobals x with
  | some (some (.ref a)) => (match K.lookup a with
    | some ⟨.type c, none, .seq its _, _⟩ => decide (c = "tuple") && (decide (its.size ≤ sizeLine) && strsB its.toList ys)
    | _ => false)
  | _ => false
theorem tupC_of {K : PySem.W.Frag} {h : Heap} {mg : Str → Option Value} {x : Str} {ys : List Str} (X : K.In h) (G : h.Ns mainGlobals mg) (e : tupB K x ys = true) : TupC K mg x ys := by
  unfold tupB at e
  split at e
  · rename_i a hu
    split at e
    · rename_i c its n sl hl
      simp only [Bool.and_eq_true, decide_eq_true_eq] at e
      obtain ⟨rfl, h2, h3⟩ := e
      exact ⟨a, _, its, n, PySem.W.mg_of X G hu, hl, rfl, rfl, rfl, h2, strsB_ok h3⟩
    · cases e
  · cases e
/-- x.index(e), x a tuple of texts of the module -/
def dTIx (ys : List Str) (fe : DE) : DE := fun Γ M => (fe Γ M).bind fun p => match p.1 with
  | .dat (.str z) => if z ∈ ys then some (.dat (.int (ys.idxOf z : Nat)), p.2) else none
  | _ => none
theorem pd_tix {X : Cx} {x : Str} {ys : List Str} {e : Expr} {fe : DE} {p apos cpos : Pos} (g : TupC X.K X.mg x ys) (hg : Gl X x) (he : PD X e fe) (hd : (x == ("__debug__" : Str)) = false := by decide)
    (hbase : attributeBase (.Name x p) "index" X.env (eval (.Name x p) X.env) = eval (.Name x p) X.env := by rfl)
    (hfew : ((backTo cpos (starEach [e] X.env)).all (fun x => !x.1) && (backToKw cpos (keywordEach [] X.env)).all (fun x => x.1.isSome)
      && decide ([e].length + ([] : List Keyword).length + (if ([] : List Keyword).isEmpty then 0 else 1) < 30)) = true := by rfl)
    (hline : (apos.endLine == cpos.line) = true := by rfl) (hs : starEach [e] X.env = (false, eval e X.env) :: starEach [] X.env := by rfl) : PD X (.Call (.Attribute (.Name x p) "index" apos) [e] [] cpos) (dTIx ys fe) := by
  obtain ⟨a, o, its, n, h1, h2, h3, h4, h5, h6, h7⟩ := g.ex
  refine PE.weak (pe_bmG PySem.F.plainAttrs_tuple PySem.F.slot_tuple_index PySem.F.type_tuple_index mt_tup_index (pe_glob hg h1 (v := V.ref a) rfl hd) (pa_cons he pa_nil hs) hbase hfew hline hs rfl) fun σ H Q ⟨F', ι, Γ, M, s, M', w, e, q⟩ => ?_
  obtain ⟨⟨so, M1⟩, e1, e⟩ := Option.bind_eq_some_iff.mp e
  show TyP X "tuple" (V.ref a) H ∧ _
  refine ⟨fun pins σ s v I r => ?_, F', ι, Γ, M, so, M1, w, e1, fun v ι1 H1 x1 r1 i1 => ?_⟩
  · exact tyV_is I r (T := "tuple") (.inr (.inl ⟨rfl, o, h2, h3, h4⟩))
  · simp only at e
    split at e
    case h_2 => cases e
    rename_i z
    split at e
    case isFalse => cases e
    rename_i hm
    cases e
    cases i1 with
    | dat i1 =>
      cases i1
      have hlt : ys.idxOf z < ys.length := List.idxOf_lt_length_of_mem hm
      refine ⟨a, ys, z, ys.idxOf z, rfl, rfl, .inr ⟨o, its, n, h2, h3, h5, h6, h7⟩, ?_, fun m hm2 hc => ?_, q _ ι1 H1 x1 r1 (.dat (.int _))⟩
      · rw [List.getElem?_eq_getElem hlt, List.getElem_idxOf hlt]
      · have hml := (List.getElem?_eq_some_iff.mp hc).1
        have hme := (List.getElem?_eq_some_iff.mp hc).2
        have := List.not_of_lt_findIdx (p := (· == z)) (xs := ys) (i := m) hm2
        rw [hme] at this
        simp at this
end EL
namespace EL
open PySem PySem.Spec PyProof.Rows L2 TL

section
variable {Γ : Ga} {M : Sto} {fa fb fo fv : DE} {fr : DA} {x y a b : Str} {i : Int}
@[simp] theorem tyD_str : tyD "str" (.str x) = true := rfl
@[simp] theorem oAdd_s (h : x.length + y.length ≤ LIM) : oAdd (.str x) (.str y) = some (.dat (.str (x ++ y))) := if_pos h
@[simp] theorem oIAdd_s (h : x.length + y.length ≤ LIM) : oIAdd (.str x) (.str y) = some (.dat (.str (x ++ y))) := if_pos h
theorem okEq_s : okEq (.str x) (.str y) = true := by simp [okEq, PyData.plain, PyData.depth]
@[simp] theorem oEq_ss : oEq (.str x) (.str y) = some (.dat (.bool (decide (x = y)))) := by
  unfold oEq
  rw [if_pos okEq_s]
  simp [PyData.eqv]
  rfl
@[simp] theorem oNe_ss : oNe (.str x) (.str y) = some (.dat (.bool (!decide (x = y)))) := by
  unfold oNe
  rw [if_pos okEq_s]
  simp [PyData.eqv]
  rfl
@[simp] theorem sWhile_e {n : Nat} {ft : DT} {fs : DS} : sWhile n ft fs Γ M = whileL ft fs n Γ M := rfl
theorem whileL_f {n : Nat} {ft : DT} {fs : DS} (h : ft Γ M = some (false, M)) : whileL ft fs (n + 1) Γ M = some (.nx, Γ, M) := by
  unfold whileL
  rw [h]; rfl
theorem whileL_t {n : Nat} {ft : DT} {fs : DS} {Γ1 : Ga} {M1 : Sto} (h : ft Γ M = some (true, M)) (h2 : fs Γ M = some (.nx, Γ1, M1)) : whileL ft fs (n + 1) Γ M = whileL ft fs n Γ1 M1 := by
  rw [whileL, h]
  simp [h2]
def fldk (C f : Str) (p : SV × Sto) : Option (SV × Sto) := match p.1 with
  | .ptr n => (obF C f p.2[n]?).map fun s => (s, p.2)
  | _ => none
@[simp] theorem dFld_e {C f : Str} : dFld C f fo Γ M = (fo Γ M).bind (fldk C f) := rfl
@[simp] theorem fldk_e {C f : Str} {n : Nat} : fldk C f (.ptr n, M) = (obF C f M[n]?).map fun s => (s, M) := rfl
@[simp] theorem obF_e {C f : Str} {fs : List (Str × SV)} : obF C f (some (.ob C fs)) = fs.lookup f := if_pos rfl
def fsk (C f : Str) (v : SV) (Γ : Ga) (p : SV × Sto) : Option (Fl × Ga × Sto) := match p.1 with
  | .ptr n => (obPut C f v p.2[n]?).map fun d => (.nx, Γ, p.2.set n d)
  | _ => none
@[simp] theorem sFldS_e {C f : Str} : sFldS C f fv fo Γ M = (fv Γ M).bind fun pv => (fo Γ pv.2).bind (fsk C f pv.1 Γ) := rfl
@[simp] theorem fsk_e {C f : Str} {n : Nat} {v : SV} : fsk C f v Γ (.ptr n, M) = (obPut C f v M[n]?).map fun d => (.nx, Γ, M.set n d) := rfl
@[simp] theorem obPut_e {C f : Str} {fs : List (Str × SV)} {s : SV} (h : fs.length < 1000) : obPut C f s (some (.ob C fs)) = some (.ob C (putS f s fs)) := if_pos ⟨rfl, h⟩
def mok (C m : Str) (g : FnT) (fr : DA) (Γ : Ga) (p : SV × Sto) : Option (SV × Sto) := match p.1 with
  | .ptr n => (obM C m p.2[n]?).bind fun _ => (fr Γ p.2).bind fun q => (g (.ptr n :: q.1) q.2).bind okR
  | _ => none
@[simp] theorem dMethO_e {C m : Str} {g : FnT} : dMethO C m g fo fr Γ M = (fo Γ M).bind (mok C m g fr Γ) := rfl
@[simp] theorem mok_e {C m : Str} {g : FnT} {n : Nat} : mok C m g fr Γ (.ptr n, M) = (obM C m M[n]?).bind fun _ => (fr Γ M).bind fun q => (g (.ptr n :: q.1) q.2).bind okR := rfl
@[simp] theorem obM_e {C m : Str} {fs : List (Str × SV)} (h : fs.lookup m = none) : obM C m (some (.ob C fs)) = some () := if_pos ⟨rfl, h⟩
def mkk (n : Nat) (r : Ret × Sto) : Option (SV × Sto) := match r.1 with
  | .ok (.dat .none) => some (.ptr n, r.2)
  | _ => none
@[simp] theorem dMake_e {C : Str} {g : FnT} : dMake C g fr Γ M = (fr Γ M).bind fun q => (g (.ptr q.2.length :: q.1) (q.2 ++ [.ob C []])).bind (mkk q.2.length) := rfl
@[simp] theorem mkk_e {n : Nat} : mkk n (.ok (.dat .none), M) = some (.ptr n, M) := rfl
theorem mSplit_e (h1 : b.length ≠ 0) (h2 : a.length + 2 ≤ LIM) : mSplit (.str a) [.str b] = some (.new (.list ((Txt.split a b).map .str))) := if_pos ⟨h1, h2⟩
theorem mPart_e (h1 : b.length ≠ 0) (h2 : a.length ≤ LIM) : mPart (.str a) [.str b] = some (.dat (.tuple [.str (Txt.partition a b).1, .str (Txt.partition a b).2.1, .str (Txt.partition a b).2.2])) := if_pos ⟨h1, h2⟩
theorem mWords_e (h2 : a.length + 2 ≤ LIM) : mWords (.str a) [] = some (.new (.list ((Txt.words a).map .str))) := if_pos h2
theorem mJoin_e {ys : List Str} (h : (ys.map (·.length)).sum + ys.length * a.length ≤ LIM) : mJoin (.str a) [.list (ys.map .str)] = some (.dat (.str (Txt.join a ys))) := by
  show (strsD (ys.map .str)).bind _ = _
  rw [strsD_map]
  exact if_pos h
end
/-- signs of a text -/
theorem len_of {x : Str} : x.length = (tl x).length := len_tl x
theorem eq_tl {x y : Str} : x = y ↔ tl x = tl y := ⟨fun h => by rw [h], ext_tl⟩
/-- the text of a whole number -/
def nT (n : Nat) : Str := Str.ofString (toString ((n : Nat) : Int))
theorem tl_nT (n : Nat) : tl (nT n) = numL n := tl_num n
theorem bStr_n {n : Nat} (h : n < 10 ^ 60) : bStr [.int (n : Int)] = some (.dat (.str (nT n))) := by
  have hl : (n : Int).natAbs.log2 < 1920 := by
    rw [Int.natAbs_natCast]
    refine Nat.lt_of_lt_of_le (PySem.Flt.log2_lt_of (k := 200) (by decide) (Nat.lt_trans h (by decide))) (by decide)
  exact if_pos hl
theorem nT_len {n : Nat} (h : n < 10 ^ 60) : (nT n).length ≤ 60 := by
  rw [len_of, tl_nT]
  exact numL_len (by decide) h
theorem bInt_n {n : Nat} (h : n < 10 ^ 60) : bInt [.str (nT n)] = some (.dat (.int (n : Int))) := by
  have h1 := nT_len h
  have h2 : intText? (nT n) = some (n : Int) := int_num (by
    have := h1
    rw [len_of, tl_nT] at this
    omega)
  show (if (nT n).length ≤ 640 then (intText? (nT n)).map fun n => OR.dat (.int n) else none) = _
  rw [if_pos (by omega), h2]; rfl
def rgc (p : List SV × Sto) : Option ((DIt × Nat) × Sto) := match p.1 with
  | [.dat (.int i), .dat (.int j), .dat (.int c)] => if 0 < c ∧ c.natAbs < 1073741824 ∧ Builtin.Range.small i j c = true then some ((itC i c (Builtin.Range.rangeSize i j c).toNat, (Builtin.Range.rangeSize i j c).toNat), p.2) else none
  | _ => none
@[simp] theorem iRngC_e {fr : DA} {Γ : Ga} {M : Sto} : iRngC fr Γ M = (fr Γ M).bind rgc := rfl
theorem fits_of {x : Int} (h : -1000000000 ≤ x) (h2 : x ≤ 1000000000) : Builtin.Range.rangeFitsLong x = true := by
  unfold Builtin.Range.rangeFitsLong
  rw [Bool.and_eq_true, decide_eq_true_eq, decide_eq_true_eq]
  exact ⟨by omega, by omega⟩
theorem size_le {i j c : Int} (hc : 0 < c) (h0 : 0 ≤ i) (hj : j ≤ 1000000) : 0 ≤ Builtin.Range.rangeSize i j c ∧ Builtin.Range.rangeSize i j c ≤ 1000000 := by
  unfold Builtin.Range.rangeSize
  rw [if_pos hc]
  split
  · have h1 : 0 ≤ (j - i - 1) / c := Int.ediv_nonneg (by omega) (by omega)
    have h2 : (j - i - 1) / c ≤ j - i - 1 := Int.ediv_le_self _ (by omega)
    omega
  · omega
theorem small_ok {i j c : Int} (hc : 0 < c) (hc2 : c ≤ 1000000) (h0 : 0 ≤ i) (hi : i ≤ 1000000) (hj0 : 0 ≤ j) (hj : j ≤ 1000000) : Builtin.Range.small i j c = true := by
  have h := size_le (i := i) (j := j) hc h0 hj
  unfold Builtin.Range.small
  rw [if_pos hc, fits_of (by omega) (by omega), fits_of (by omega) (by omega), fits_of (by omega) (by omega), fits_of (by omega) (by omega), fits_of (by omega) (by omega), Bool.or_true]
  rfl
theorem rgc_e {i j c : Int} {n : Nat} {M : Sto} (hc : 0 < c) (hc2 : c ≤ 1000000) (h0 : 0 ≤ i) (hi : i ≤ 1000000) (hj0 : 0 ≤ j) (hj : j ≤ 1000000) (hn : Builtin.Range.rangeSize i j c = (n : Int)) : rgc ([.dat (.int i), .dat (.int j), .dat (.int c)], M) = some ((itC i c n, n), M) := by
  have h1 : c.natAbs < 1073741824 := by omega
  show (if 0 < c ∧ c.natAbs < 1073741824 ∧ Builtin.Range.small i j c = true then _ else _) = _
  rw [if_pos ⟨hc, h1, small_ok hc hc2 h0 hi hj0 hj⟩, hn, Int.toNat_natCast]
/-- the items of such a range -/
def rngC (lo c : Int) (n : Nat) : List D := (List.range n).map fun i : Nat => PyData.int (lo + (i : Int) * c)
theorem itC_D {lo c : Int} {n : Nat} : itC lo c n = itD (rngC lo c n) := by
  funext M i
  unfold itC itD rngC
  rw [List.getElem?_map]
  by_cases h : i < n
  · rw [if_pos h, List.getElem?_range h]; rfl
  · rw [if_neg h, List.getElem?_eq_none (by simpa using h)]; rfl
theorem rngC_length {lo c : Int} {n : Nat} : (rngC lo c n).length = n := by simp [rngC]
theorem rngC_get {lo c : Int} {n i : Nat} (h : i < n) : (rngC lo c n)[i]? = some (.int (lo + (i : Int) * c)) := by
  unfold rngC
  rw [List.getElem?_map, List.getElem?_range h]; rfl
/-- a comprehension over a list that stays -/
theorem itL_same {it : DIt} {ds : List D} {step : DSt} {M : Sto} (hit : ∀ i, it M i = some (ds[i]?.map .dat)) (hs : ∀ d ∈ ds, ∀ acc r, step (.dat d) M acc = some r → r.2 = M) :
    ∀ (k i : Nat) (acc : List SV), itL it step k i M acc = itL (itD ds) step k i M acc
  | 0, _, _ => rfl
  | k + 1, i, acc => by
    rw [itL, itL, hit i]
    have e : itD ds M i = some (ds[i]?.map .dat) := rfl
    rw [e]
    cases hd : ds[i]? with
    | none => rfl
    | some d =>
      simp only [Option.map_some]
      cases hr : step (.dat d) M acc with
      | none => rfl
      | some r =>
        simp only [Option.bind_some]
        rw [hs d (List.mem_of_getElem? hd) acc r hr]
        exact itL_same hit hs k (i + 1) r.1
theorem cStep_keeps {tg : DG} {tt : DT} {own : List Nat} {te : DE} {Γ Γ1 : Ga} {d : D} {M : Sto} {b : Bool} {x : D} (e1 : tg (.dat d) M (wipeG Γ own) = some Γ1) (e2 : tt Γ1 M = some (b, M)) (e3 : b = true → te Γ1 M = some (.dat x, M)) (acc : List SV) (r : List SV × Sto) (h : cStep tg tt own te Γ (.dat d) M acc = some r) : r.2 = M := by
  unfold cStep at h
  rw [e1, Option.bind_some, e2, Option.bind_some] at h
  cases b with
  | false => cases h; rfl
  | true =>
    rw [if_pos rfl] at h
    unfold elS at h
    rw [e3 rfl, Option.bind_some] at h
    split at h
    · cases h; rfl
    · cases h
theorem dComp_mapP {fi : DI} {ds : List D} {tg : DG} {own : List Nat} {Γ : Ga} {tt : DT} {te : DE} {m : Bool} {M0 M : Sto} {n : Nat} (p : D → Bool) (h : D → D) (hi : fi Γ M0 = some ((itP n, ds.length), M)) (hM : M[n]? = some (.fl (.list ds))) (hL : ds.length ≤ LIM)
    (step : ∀ d ∈ ds, ∃ Γ1, tg (.dat d) M (wipeG Γ own) = some Γ1 ∧ tt Γ1 M = some (p d, M) ∧ (p d = true → te Γ1 M = some (.dat (h d), M))) :
    dComp fi (cStep tg tt own te) m Γ M0 = some (finD m ((ds.filter p).map h) M) := by
  rw [dComp_e, hi]
  have e := cpw_map (m := m) (tg := tg) (own := own) (Γ := Γ) (tt := tt) (te := te) p h hL step
  refine Eq.trans ?_ e
  show (itL _ _ _ _ _ _).bind _ = (itL _ _ _ _ _ _).bind _
  rw [itL_same (ds := ds) (fun i => itP_at hM) fun d hd acc r hr => by
    obtain ⟨Γ1, e1, e2, e3⟩ := step d hd
    exact cStep_keeps e1 e2 e3 acc r hr]
theorem seq_nx {f g : DS} {Γ Γ1 : Ga} {M M1 : Sto} (h : f Γ M = some (.nx, Γ1, M1)) : sSeq f g Γ M = g Γ1 M1 := by
  rw [sSeq_e, h]; rfl
theorem seq_rt {f g : DS} {Γ Γ1 : Ga} {M M1 : Sto} {s : SV} (h : f Γ M = some (.rt s, Γ1, M1)) : sSeq f g Γ M = some (.rt s, Γ1, M1) := by
  rw [sSeq_e, h]; rfl
theorem fun_rt {N : Nat} {body : DS} {x : Bool} {ss : List SV} {Γ1 : Ga} {M : Sto} {d : D} (h : body (ss.map some ++ List.replicate (N - ss.length) none) [] = some (.rt (.dat d), Γ1, M)) : dFun N body x false ss [] = some (.ok (.dat d), []) := by
  rw [dFun_e, h]; rfl
theorem if_t {ft : DT} {f g : DS} {Γ : Ga} {M : Sto} (h : ft Γ M = some (true, M)) : sIf ft f g Γ M = f Γ M := by
  rw [sIf_e, h]; rfl
theorem if_f {ft : DT} {f g : DS} {Γ : Ga} {M : Sto} (h : ft Γ M = some (false, M)) : sIf ft f g Γ M = g Γ M := by
  rw [sIf_e, h]; rfl
end EL
namespace EL
open PySem PySem.Spec PyProof.Rows L2

/-- the last part of a turn -/
abbrev TLast := Addr → L2.St → Hp → (Hp → Prop) → Prop
/-- a comprehension that fills the new object D, in the beginning O D -/
def tFill (O : Addr → HO) (wi : TI) (g : TG) (tt : TT) (tb : TLast) (vs : List Nat) : TE := fun σ H Q =>
  wi σ H fun J H1 => ∀ D, H1 D = none → ∃ Z : Nat → Nat → Hp → Prop, (∃ m, Z 0 m (upd H1 D (O D))) ∧
    ∀ i m G, Z i m G → (J.stop i G ∧ Q (.ref D) G) ∨
      (J.go i G ∧ ∃ Nx : Hp → Prop, (∀ G', Nx G' → ∃ m', m' < m ∧ Z (i + 1) m' G') ∧
        ∀ x G', J.yld i G x G' → g x (L2.wipe σ vs) G' fun σ2 G2 => L2.wipe σ2 vs = L2.wipe σ vs ∧
          tt σ2 G2 fun b G3 => if b = true then tb D σ2 G3 Nx else Nx G3)
/-- how a turn's last part is run -/
abbrev BodyT := Env → Addr → (Shared → Prop) → (Value → Shared → Prop) → Shared → Prop
/-- what is to be known of a kind of comprehension -/
structure FillK (P : Program) (w : World) (A : Around) (node tg iter : Expr) (ifs : List Expr) (scope : Scope) (pos : Pos) (mk : Sem Value) (ob : Obj) (B : BodyT) : Prop where
  cls : clausesOf node = [⟨tg, iter, ifs, 0⟩]
  made : ∀ {E : Value → Shared → Prop} {s : Shared} {Q : Value → Shared → Prop}, Q (.ref s.heap.objs.size) { s with heap := s.heap.push ob } → wpAny (model P w) A mk Q E s
  start : ∀ {it acc : Value} {env : Env} {R : Result → Shared → Prop} {s : Shared}, codeAny (model P w) A (.compLoop node 0 it acc env) R s →
    wpAny (model P w) A (pyIter it) (fun it' s' => codeAny (model P w) A (.compLoop node 0 it' acc env) R s') (notedBy (model P w) A env fun x s' => R (.error x) s') s →
    codeAny (model P w) A (.compStart node 0 it acc env) R s
  loop : ∀ {it : Value} {D : Addr} {env : Env} {R : Result → Shared → Prop} (I : Nat → Shared → Prop),
    (∀ n s, I n s → wpAny (model P w) A (pyNext it) (fun r t1 => match r with
      | none => R (.ok .next) t1
      | some v => wpAny (model P w) A (letOwnedTupleGo tg it v) (fun _ t2 => wpAny (model P w) A (assign tg env v) (fun _ t3 =>
          wpAny (model P w) A (forIn ifs true fun c r => if r = true then do let ok ← isTrue c env (eval c env); pure (ForInStep.yield ok) else pure (ForInStep.yield r)) (fun ok t4 =>
            if ok = true then B env D (fun t5 => ∃ m, m < n ∧ I m t5) (notedBy (model P w) A env fun e t5 => R (.error e) t5) t4 else ∃ m, m < n ∧ I m t4)
          (notedBy (model P w) A env fun e t5 => R (.error e) t5) t3) (notedBy (model P w) A env fun e t5 => R (.error e) t5) t2) (notedBy (model P w) A env fun e t5 => R (.error e) t5) t1)
      (notedBy (model P w) A env fun e t5 => R (.error e) t5) s) →
    ∀ n s, I n s → codeAny (model P w) A (.compLoop node 0 it (.ref D) env) R s
section
variable {X : Cx}
theorem fill_core {pz : List (Addr × Obj)} {s : Shared} {σ : L2.St} {H : Hp} {Q : VK} {node tg iter : Expr} {ifs : List Expr} {scope : Scope} {own : List (Str × Nat)} {pos pos' : Pos} {mk : Sem Value} {ob : Obj} {B : BodyT} {O : Addr → HO}
    {wi : TI} {g : TG} {tt : TT} {tb : TLast} {use : Option (Value → Sem Unit)} {Qf : Value → Shared → Prop}
    (K : FillK X.prog X.w X.A node tg iter ifs scope pos mk ob B) (hO : ∀ (h : Heap) (G : Hp), sysModules < h.objs.size → ObjOk X.prog X.w G (h.push ob) h.objs.size (O h.objs.size))
    (hc : X.calm = true) (hN : X.N.Nodup) (I : Inv X pz σ H s) (hi : PI X tg iter wi) (ok : BlkOk X.N X.env.scope scope own)
    (hg : ∀ (s : Shared) (H : Hp) (C : Addr) (cl : List (Str × Addr)) (fp : List Addr), PG (X.blk s H scope (compEnvC scope cl C X.env) fp) tg g)
    (ht : ∀ (s : Shared) (H : Hp) (C : Addr) (cl : List (Str × Addr)) (fp : List Addr), PTs (X.blk s H scope (compEnvC scope cl C X.env) fp) ifs tt)
    (hb : ∀ (s : Shared) (H : Hp) (C : Addr) (cl : List (Str × Addr)) (fp : List Addr) (pz : List (Addr × Obj)) (t : Shared) (σ' : L2.St) (G : Hp) (D : Addr) (Nx : Hp → Prop) (P : Shared → Prop) (NB : Value → Shared → Prop),
      Inv (X.blk s H scope (compEnvC scope cl C X.env) fp) pz σ' G t → tb D σ' G Nx → (∀ t' G', Inv (X.blk s H scope (compEnvC scope cl C X.env) fp) pz σ' G' t' → Nx G' → P t') → B (compEnvC scope cl C X.env) D P NB t)
    (hs : ∀ x, foldedSetIterable iter X.env x = pure x) (h : tFill O wi g tt tb (own.map (·.2)) σ H Q)
    (hRR : ∀ D C s' m H', Inv X pz σ H' s' → Q (.ref D) H' → s'.heap.Ns C m → FpOk X pz H' C → compPost (model X.prog X.w) X.A X.xe use Qf (.ref D) C (.ok .next) s') :
    wpAny (model X.prog X.w) X.A (comprehension node scope X.env pos' mk false (eval iter X.env) use) Qf X.xe s := by
  have fr : ∀ y ∈ scope.names, y.2 = .free → ∃ c, X.env.cells.lookup y.1 = some c := by
    intro y hy e
    exact (ok.free y hy e).elim (fun k => I.ok.has _ (.inl k)) fun k => I.ok.has _ (.inr k)
  refine wpAny_comprehension_free (use := use) K.cls hs (closure_ok fr) ok.kind (by
    intro y hy e
    rw [ok.uniq y hy, e]) ?_
  refine thn (hi.run pz s σ H _ I h) fun xv t1 hx => thn hx fun itv t2 h2 => ?_
  obtain ⟨it, fp, tn, J, G2, rfl, I2, T, st2, f2, q⟩ := h2
  refine K.made (newEnv_comp ?_)
  have keep3 : ∀ b o, t2.heap.get? b = some o → (t2.heap.push ob).get? b = some o := fun b o e => Heap.get?_push_of_some _ e
  have I3 : Inv X pz σ (upd G2 t2.heap.objs.size (O t2.heap.objs.size)) { t2 with heap := t2.heap.push ob } := I2.laid (t' := t2.toks) keep3 (Nat.le_refl _) (hO t2.heap _ I2.big)
  obtain ⟨Z, ⟨m0, z0⟩, turn⟩ := q t2.heap.objs.size (I2.hok.fresh (Nat.le_refl _))
  have old : ∀ b ∈ fp, b < t2.heap.objs.size := fun b hb => (T.obj _ _ st2 b hb).elim fun o e => Heap.lt_size e.1
  have hsz : (t2.heap.push ob).objs.size = t2.heap.objs.size + 1 := Heap.size_push ..
  have f3 : ∀ b ∈ fp, FpOk X pz (upd G2 t2.heap.objs.size (O t2.heap.objs.size)) b ∧ b < (t2.heap.push ob).objs.size := fun b hb => by
    have lt := old b hb
    refine ⟨⟨?_, (f2 b hb).2⟩, by rw [hsz]; exact Nat.lt_succ_of_lt lt⟩
    rw [upd_ne (Nat.ne_of_lt lt)]
    exact (f2 b hb).1
  generalize upd G2 t2.heap.objs.size (O t2.heap.objs.size) = G3 at I3 z0 f3
  generalize t2.heap.objs.size = D at I3 z0 f3 turn
  have st3 : tn 0 (t2.heap.push ob) := T.keep _ _ _ st2 fun b _ o e => keep3 b o e
  generalize ht3 : ({ t2 with heap := t2.heap.push ob } : Shared) = t3 at I3
  have eh : t2.heap.push ob = t3.heap := by rw [← ht3]
  rw [eh] at st3 f3
  have I4 := block_start I3 ok hN f3
  have B1 := hg t3 G3 t3.heap.objs.size (cellsFrom (t3.heap.objs.size + 1) scope.names (cloFrom X.env.cells scope.names [])) fp
  have B2 := ht t3 G3 t3.heap.objs.size (cellsFrom (t3.heap.objs.size + 1) scope.names (cloFrom X.env.cells scope.names [])) fp
  have B3 := hb t3 G3 t3.heap.objs.size (cellsFrom (t3.heap.objs.size + 1) scope.names (cloFrom X.env.cells scope.names [])) fp
  show codeAny _ _ (.compStart node 0 (.ref it) (.ref D) (compEnvC scope (cellsFrom (t3.heap.objs.size + 1) scope.names (cloFrom X.env.cells scope.names [])) t3.heap.objs.size X.env))
    (compPost (model X.prog X.w) X.A X.xe use Qf (.ref D) t3.heap.objs.size) { t3 with heap := pushCells (t3.heap.push { cls := .type "dict", data := .dict #[] }) scope.names }
  have none3 : ∀ b ∈ fp, G3 b = none := fun b hb => (f3 b hb).1.1
  generalize he : compEnvC scope (cellsFrom (t3.heap.objs.size + 1) scope.names (cloFrom X.env.cells scope.names [])) t3.heap.objs.size X.env = ce at I4 B1 B2 B3 ⊢
  have eL : ce.locals = t3.heap.objs.size := by rw [← he]; rfl
  generalize h4 : ({ t3 with heap := pushCells (t3.heap.push { cls := .type "dict", data := .dict #[] }) scope.names } : Shared) = t4 at I4 ⊢
  have st4 : tn 0 t4.heap := T.keep _ _ _ st3 fun b _ o e => by
    rw [← h4]
    exact pushCells_keeps _ _ _ _ (Heap.get?_push_of_some _ e)
  have fpOk : ∀ {σ' : L2.St} {G' : Hp} {t' : Shared}, Inv (X.blk t3 G3 scope ce fp) [] σ' G' t' → (∀ b ∈ fp, G' b = none) → ∀ b ∈ fp, FpOk (X.blk t3 G3 scope ce fp) [] G' b := by
    intro σ' G' t' I' hn b hb
    refine ⟨hn b hb, (I'.ok.exf b hb).1, I'.ok.exfs b hb, .inl hb, (I'.ok.exf b hb).2, ?_⟩
    intro p hp
    simp at hp
  have loop : codeAny (model X.prog X.w) X.A (.compLoop node 0 (.ref it) (.ref D) ce) (compPost (model X.prog X.w) X.A X.xe use Qf (.ref D) t3.heap.objs.size) t4 := by
    refine K.loop (fun n t' => ∃ i G', Inv (X.blk t3 G3 scope ce fp) [] (L2.wipe σ (own.map (·.2))) G' t' ∧ tn i t'.heap ∧ (∀ b ∈ fp, G' b = none) ∧ Z i n G') ?_ m0 t4 ⟨0, G3, I4, st4, none3, z0⟩
    rintro n t5 ⟨i, G5, I5, st5, n5, z5⟩
    rcases turn i n G5 z5 with ⟨stop, qq⟩ | ⟨go, Nx, hNx, step⟩
    · refine thnF (T.done (X.blk t3 G3 scope ce fp) rfl rfl rfl hc i [] t5 _ G5 (fun _ _ => False) I5 (fpOk I5 n5) st5 stop) fun r t6 ⟨hr, I6⟩ => ?_
      subst hr
      have gone : G5 t3.heap.objs.size = none := by
        rw [← eL]
        exact I6.free
      obtain ⟨m, hm, _⟩ := I6.loc
      have hm : t6.heap.Ns ce.locals m := hm
      rw [eL] at hm
      refine hRR D t3.heap.objs.size t6 m G5 ?_ qq hm (I3.fpOk (Nat.le_refl _) gone)
      refine I3.call' (ch := fp) I6.os I6.base I6.hok I6.bare fun b hb => ?_
      obtain ⟨⟨_, w1, w2, w3, w4, w5⟩, _⟩ := f3 b hb
      exact ⟨w3, w1, w4, w5⟩
    · refine thnF (T.item (X.blk t3 G3 scope ce fp) rfl rfl rfl hc i [] t5 _ G5 (fun _ _ => False) I5 (fpOk I5 n5) st5 go) fun r t6 ⟨u, hr, h6⟩ => ?_
      subst hr
      refine thnF h6 fun _ t7 ⟨x, G7, I7, r7, y7, st7, n7⟩ => ?_
      refine thnF (B1.run _ t7 _ G7 x u _ (I7.pinned (fpOk I7 n7) (T.obj _ _ st7)) r7 (step x G7 y7)) fun _ t8 ⟨σ8, G8, I8, w8, q8⟩ => ?_
      refine thnF (B2.run _ t8 σ8 G8 _ I8 q8) fun b t9 ⟨G9, I9, q9⟩ => ?_
      have fin : ∀ (t' : Shared) (G' : Hp), Inv (X.blk t3 G3 scope ce fp) ([] ++ pinsAt fp t7.heap) σ8 G' t' → Nx G' →
          ∃ m, m < n ∧ ∃ i G', Inv (X.blk t3 G3 scope ce fp) [] (L2.wipe σ (own.map (·.2))) G' t' ∧ tn i t'.heap ∧ (∀ b ∈ fp, G' b = none) ∧ Z i m G' := by
        intro t' G' I' nx
        obtain ⟨m', lt, z'⟩ := hNx G' nx
        have pin : ∀ b ∈ fp, ∀ o, t7.heap.get? b = some o → t'.heap.get? b = some o ∧ G' b = none := fun b hb o e => by
          have z := I'.pin (b, o) (List.mem_append_right _ (List.mem_append_right _ (mem_pinsAt hb e)))
          exact ⟨z.1, z.2.1⟩
        refine ⟨m', lt, i + 1, G', (I'.unpinned (pins := [])).weak (by rw [← w8, wipe_length]) (fun j v e => by rw [← w8] at e; exact (wipe_some e).1), T.keep _ _ _ st7 fun b hb o e => (pin b hb o e).1, fun b hb => ?_, z'⟩
        obtain ⟨o, e, _⟩ := T.obj _ _ st7 b hb
        exact (pin b hb o e).2
      cases b with
      | false => exact fin _ _ I9 (by simpa using q9)
      | true => exact B3 _ t9 σ8 G9 D Nx _ _ I9 (by simpa using q9) fin
  exact K.start loop (T.self X.A 0 _ _ _ st4 loop)
end
end EL
namespace EL
open PySem PySem.Spec PyProof.Rows L2

def bodySet (P : Program) (w : World) (A : Around) (elt : Expr) : BodyT := fun env D Pp NB s =>
  wpAny (model P w) A (eval elt env) (fun x t => wpAny (model P w) A (call (.builtin "set.add") [.ref D, x]) (fun _ t' => Pp t') NB t) NB s
def newSetOb (w : World) : Obj := { cls := .type "set", dict := none, data := .set #[] 0 (.fresh 0 0 (!w.params.followText "set-order")) }
theorem fill_set {P : Program} {w : World} {A : Around} {elt tg iter : Expr} {ifs : List Expr} {scope : Scope} {pos : Pos} :
    FillK P w A (.SetComp elt [⟨tg, iter, ifs, 0⟩] scope pos) tg iter ifs scope pos (newSet (.type "set")) (newSetOb w) (bodySet P w A elt) where
  cls := rfl
  made := fun h => PpSet.newSet_ok h
  start := fun h0 h => PpSet.codeAny_compStart_set h0 h
  loop := fun I turn n s h => PpSet.compLoopS_any I turn n h
def lastSet (w : World) (te : TE) : TLast := fun D σ H Nx => te σ H fun y G => ∃ (k : Int) (S : Int → Bool) (n : Nat), y = .int k ∧ G D = some (SetO w D S n) ∧ n + 1 < scanBound ∧
  Nx (upd G D (SetO w D (fun j => S j || decide (j = k)) (if S k = true then n else n + 1)))
section
variable {X : Cx}
theorem pe_setc {elt tg iter : Expr} {ifs : List Expr} {scope : Scope} {own : List (Str × Nat)} {pos : Pos} {wi : TI} {g : TG} {tt : TT} {te : TE} (hc : X.calm = true) (hN : X.N.Nodup) (hi : PI X tg iter wi) (ok : BlkOk X.N X.env.scope scope own)
    (hg : ∀ (s : Shared) (H : Hp) (C : Addr) (cl : List (Str × Addr)) (fp : List Addr), PG (X.blk s H scope (compEnvC scope cl C X.env) fp) tg g)
    (ht : ∀ (s : Shared) (H : Hp) (C : Addr) (cl : List (Str × Addr)) (fp : List Addr), PTs (X.blk s H scope (compEnvC scope cl C X.env) fp) ifs tt)
    (he : ∀ (s : Shared) (H : Hp) (C : Addr) (cl : List (Str × Addr)) (fp : List Addr), PE (X.blk s H scope (compEnvC scope cl C X.env) fp) elt te)
    (hs : ∀ x, foldedSetIterable iter X.env x = pure x := by intro _; rfl) :
    PE X (.SetComp elt [⟨tg, iter, ifs, 0⟩] scope pos) (tFill (fun D => SetO X.w D (fun _ => false) 0) wi g tt (lastSet X.w te) (own.map (·.2))) := by
  refine ⟨fun pz s σ H Q I h => ?_⟩
  rw [PpSet.eval_SetComp]
  refine fill_core fill_set (fun h G _ => setO_new (setR_fresh (h := h) X.w)) hc hN I hi ok hg ht (fun s H C cl fp pz t σ' G D Nx P NB I q fin => ?_) hs h fun D C s' m H' I' q hn f => ⟨m, hn, fun h'' sb => ?_⟩
  · show wpAny _ _ (eval elt _) _ _ _
    refine thnF ((he s H C cl fp).run _ t σ' G _ I q) fun z t2 ⟨y, G2, I2, r2, k, S, n, ey, hD, room, nx⟩ => ?_
    subst ey
    exact thnF (mt_sadd _ t2 σ' G2 (.ref D) [.int k] (.ref D) [z] (fun _ G' => Nx G') I2 rfl (.cons r2 .nil) ⟨D, k, S, n, rfl, rfl, hD, room, nx⟩) fun _ t3 ⟨_, G3, I3, _, nx'⟩ => fin t3 G3 I3 nx'
  · obtain ⟨f0, f1, f2, f3, f4, f5⟩ := f
    exact ⟨.ref D, H', I'.turned (t' := s'.toks) (fun b o hb e => (sb.2 b hb).trans e) f0 f1 f3 f4 f5, rfl, q⟩
/-- len of a set -/
def rLenSt (w : World) : List V → Hp → VK → Prop := fun xs H Q => ∃ (a : Addr) (S : Int → Bool) (n : Nat), xs = [.ref a] ∧ H a = some (SetO w a S n) ∧ n < scanBound ∧ Q (.int n) H
theorem cr_lenSt : CallR X (.builtin "len") (rLenSt X.w) := by
  intro pins s σ H xs us Q I r h
  obtain ⟨a, S, n, rfl, ha, hn, q⟩ := h
  rw [Vals.ref1 r]
  obtain ⟨o, es, ep, t, ho, hex, hd, _, _, _, hb, hf, hsz, _⟩ := setO_get I ha
  exact call_len_set ho hex hd hf (by rw [hsz]; unfold scanBound at hn; omega) ⟨.int n, H, I.tok _, ⟨_, by rw [hsz]⟩, q⟩
end
end EL
namespace EL
open PySem PySem.Spec PyProof.Rows L2

abbrev SSt := SV → Sto → List Int → Option (List Int × Sto)
def itS (it : DIt) (step : SSt) : Nat → Nat → Sto → List Int → Option (List Int × Sto)
  | 0, _, _, _ => none
  | k + 1, i, M, acc => match it M i with
    | none => none
    | some none => some (acc, M)
    | some (some d) => (step d M acc).bind fun r => itS it step k (i + 1) r.2 r.1
def putI (acc : List Int) (k : Int) : List Int := if k ∈ acc then acc else acc ++ [k]
def sStep (tg : DG) (tt : DT) (own : List Nat) (te : DE) (Γ : Ga) : SSt := fun d M acc => (tg d M (wipeG Γ own)).bind fun Γ1 => (tt Γ1 M).bind fun b =>
  if b.1 = true then (te Γ1 b.2).bind fun p => (match p.1 with
    | .dat (.int k) => if acc.length < 1000 then some (putI acc k, p.2) else none
    | _ => none) else some (acc, b.2)
/-- {e for .. in ..}: a new set of ints -/
def dCompS (fi : DI) (step : Ga → SSt) : DE := fun Γ M => (fi Γ M).bind fun p => (itS p.1.1 (step Γ) (p.1.2 + 1) 0 p.2 []).map fun r => (.ptr r.2.length, r.2 ++ [.st r.1])
theorem putI_len (acc : List Int) (k : Int) : (putI acc k).length = if k ∈ acc then acc.length else acc.length + 1 := by
  unfold putI
  split
  · rfl
  · rw [List.length_append]; rfl
theorem putI_mem {acc : List Int} {k j : Int} : j ∈ putI acc k ↔ j ∈ acc ∨ j = k := by
  unfold putI
  split
  · rename_i h
    exact ⟨.inl, fun z => z.elim id fun e => e ▸ h⟩
  · rw [List.mem_append, List.mem_singleton]
theorem putI_nd {acc : List Int} {k : Int} (h : acc.Nodup) : (putI acc k).Nodup := by
  unfold putI
  split
  · exact h
  · rename_i hk
    rw [List.nodup_append]
    exact ⟨h, by simp, fun a ha b hb e => by rw [List.mem_singleton.mp hb] at e; exact hk (e ▸ ha)⟩
def SetIs (c : Ct) (H : Hp) (Dp : Addr) (acc : List Int) : Prop := ∃ S : Int → Bool, H Dp = some (SetO c.w Dp S acc.length) ∧ (∀ k, S k = true ↔ k ∈ acc) ∧ acc.Nodup
def CInvS (c : Ct) (F : List Addr) (ι1 : List Addr) (H1 : Hp) (Dp : Addr) (H : Hp) (M : Sto) (acc : List Int) : Prop :=
  ∃ ι, Ext ι1 H1 ι H ∧ Rep (c.at (Dp :: F)) ι H M ∧ SetIs c H Dp acc
theorem compS_turn {c : Ct} {F ι1 ι : List Addr} {σ : L2.St} {H1 H : Hp} {Γ : Ga} {M M' : Sto} {Dp : Addr} {g : DG} {tt : DT} {te : DE} {own ts : List Nat} {d : SV} {acc acc' : List Int} {v : V} {Nx : Hp → Prop} (ho : ∀ k ∈ ts, k ∈ own) (hD : H1 Dp = none)
    (w : Wd (c.at (Dp :: F)) ι σ H Γ M) (x : Ext ι1 H1 ι H) (hp : SetIs c H Dp acc) (hd : IsS (c.at (Dp :: F)) ι H v d) (e : sStep g tt own te Γ d M acc = some (acc', M'))
    (k : ∀ ι' H', Ext ι1 H1 ι' H' → Rep (c.at (Dp :: F)) ι' H' M' → SetIs c H' Dp acc' → Nx H') :
    rdG c ts g v (L2.wipe σ own) H fun σ2 H2 => L2.wipe σ2 own = L2.wipe σ own ∧ rdT c tt σ2 H2 fun b H3 => if b = true then lastSet c.w (rdE c te) Dp σ2 H3 Nx else Nx H3 := by
  obtain ⟨Γ1, e1, e⟩ := Option.bind_eq_some_iff.mp e
  obtain ⟨⟨b, M4⟩, e2, e⟩ := Option.bind_eq_some_iff.mp e
  refine ⟨Dp :: F, ι, wipeG Γ own, M, d, Γ1, w.wipe own, hd, e1, fun σ3 a3 w3 => ⟨AtMost.wipe (a3.mono ho) |>.trans ?_, ?_⟩⟩
  · apply List.ext_getElem?
    intro j
    rw [wipe_at, wipe_at]
    by_cases hk : j ∈ own
    · rw [if_pos hk, if_pos hk]
      cases σ[j]? <;> rfl
    · rw [if_neg hk]
  · refine ⟨Dp :: F, ι, Γ1, M, b, M4, w3, e2, fun ι4 H4 x4 r4 => ?_⟩
    have hn : Dp ∉ ι := (w.rep.fr Dp List.mem_cons_self).1
    obtain ⟨S, h1, h2, h3⟩ := hp
    have hp4 := x4.keep Dp _ hn h1
    cases b with
    | false =>
      rw [if_neg Bool.false_ne_true] at e
      cases e
      exact iteF (k ι4 H4 (x.trans x4) r4 ⟨S, hp4, h2, h3⟩)
    | true =>
      rw [if_pos rfl] at e
      obtain ⟨⟨s5, M5⟩, e5, e⟩ := Option.bind_eq_some_iff.mp e
      refine iteT ⟨Dp :: F, ι4, Γ1, M4, s5, M5, w3.next x4 r4, e5, fun v5 ι5 H5 x5 r5 i5 => ?_⟩
      simp only at e
      split at e
      case h_2 => cases e
      rename_i ky
      split at e
      case isFalse => cases e
      rename_i hl
      cases e
      have hn4 : Dp ∉ ι4 := (r4.fr Dp List.mem_cons_self).1
      have hv : v5 = .int ky := by
        cases i5 with
        | dat i5 => cases i5; rfl
      refine ⟨ky, S, acc.length, hv, x5.keep Dp _ hn4 hp4, by unfold scanBound; omega, ?_⟩
      have hm : Dp ∈ (c.at (Dp :: F)).F := List.mem_cons_self
      have xx := x4.trans x5
      have x1 := x.trans xx
      generalize hO : SetO c.w Dp (fun j => S j || decide (j = ky)) (if S ky = true then acc.length else acc.length + 1) = O
      have dm : ∀ a, upd H5 Dp O a = none → H5 a = none := fun a h => by
        by_cases e : a = Dp
        · rw [e, upd_same] at h; cases h
        · rwa [upd_ne e] at h
      refine k ι5 _ ⟨x1.pre, fun a o n h => ?_, fun a h => x1.dom a (dm a h)⟩ (r5.writeF hm) ⟨fun j => S j || decide (j = ky), ?_, fun j => ?_, putI_nd h3⟩
      · rw [upd_ne (ne_of_none h hD)]
        exact x1.keep a o n h
      · rw [upd_same, ← hO, putI_len]
        by_cases hk : ky ∈ acc
        · rw [if_pos hk, if_pos ((h2 ky).mpr hk)]
        · rw [if_neg hk, if_neg fun z => hk ((h2 ky).mp z)]
      · rw [Bool.or_eq_true, decide_eq_true_eq, h2, putI_mem]
theorem rd_compS {c : Ct} {fi : DI} {ts own : List Nat} {g : DG} {tt : DT} {te : DE} {σ : L2.St} {H : Hp} {Q : VK} (ho : ∀ k ∈ ts, k ∈ own) (q : rdE c (dCompS fi (sStep g tt own te)) σ H Q) :
    tFill (fun D => SetO c.w D (fun _ => false) 0) (rdI c fi) (rdG c ts g) (rdT c tt) (lastSet c.w (rdE c te)) own σ H Q := by
  obtain ⟨F, ι, Γ, M, s, M', w, e, k⟩ := q
  obtain ⟨⟨⟨it, n⟩, M1⟩, e1, e⟩ := Option.bind_eq_some_iff.mp e
  obtain ⟨⟨acc', Mr⟩, er, e⟩ := Option.map_eq_some_iff.mp e
  cases e
  refine ⟨F, ι, Γ, M, (it, n), M1, w, e1, fun J ι1 H1 x1 r1 j1 => ?_⟩
  intro Dp hD
  have w1 := w.next x1 r1
  have hF : Dp ∉ F := fun h => by
    obtain ⟨_, o, z⟩ := r1.fr Dp h
    rw [hD] at z; cases z
  refine ⟨fun i m H2 => ∃ M2 acc, CInvS c F ι1 H1 Dp H2 M2 acc ∧ itS it (sStep g tt own te Γ) m i M2 acc = some (acc', Mr), ⟨n + 1, M1, [], ⟨ι1, .new hD, r1.hide hD, fun _ => false, upd_same, by simp, List.nodup_nil⟩, er⟩, ?_⟩
  rintro i m H2 ⟨M2, acc, ci, e2⟩
  obtain ⟨ι2, x2, r2, hp⟩ := id ci
  cases m with
  | zero => cases e2
  | succ m =>
    obtain ⟨j2, j3⟩ := j1 (Dp :: F) ι2 H2 M2 i (fun a h => by
      rcases List.mem_cons.mp h with h | h
      · rw [h]; exact .inr hD
      · exact .inl h) x2.toF r2
    rw [itS] at e2
    split at e2
    · cases e2
    · rename_i hit
      cases e2
      obtain ⟨S, h1, h2, h3⟩ := hp
      have hn : Dp ∉ ι2 := (r2.fr Dp List.mem_cons_self).1
      exact .inl ⟨j2 hit, k (.ref Dp) (ι2 ++ [Dp]) H2 (x1.trans (x2.trans' hn hD)) (r2.showP hF (.st h1 h2 h3)) (.ptr (ptr_last r2.len))⟩
    · rename_i d hit
      obtain ⟨g1, g2⟩ := j3 d hit
      obtain ⟨⟨acc5, M5⟩, e3, e2⟩ := Option.bind_eq_some_iff.mp e2
      refine .inr ⟨g1, fun H5 => ∃ M5 acc5, CInvS c F ι1 H1 Dp H5 M5 acc5 ∧ itS it (sStep g tt own te Γ) m (i + 1) M5 acc5 = some (acc', Mr), fun H5 ⟨M5, acc5, a, b⟩ => ⟨m, Nat.lt_succ_self m, M5, acc5, a, b⟩, fun x H3 y => ?_⟩
      obtain ⟨x3, r3, hd⟩ := g2 x H3 y
      have hn : Dp ∉ ι2 := (r2.fr Dp List.mem_cons_self).1
      obtain ⟨S, h1, h2, h3⟩ := hp
      exact compS_turn ho hD (w1.hide hD (x2.trans x3) r3) (x2.trans x3) ⟨S, x3.keep Dp _ hn h1, h2, h3⟩ hd e3 fun ι' H' q1 q2 q3 => ⟨M5, acc5, ⟨ι', q1, q2, q3⟩, e2⟩
/-- the number of a set's members -/
def dLenS (fa : DE) : DE := fun Γ M => (fa Γ M).bind fun p => match p.1 with
  | .ptr n => (match p.2[n]? with
    | some (.st ks) => if ks.length < 1000 then some (.dat (.int (ks.length : Nat)), p.2) else none
    | _ => none)
  | _ => none
section
variable {W : WX} {X : Cx} {elt tg iter e : Expr} {ifs : List Expr} {scope : Scope} {pos p : Pos} {fi : DI} {ts ow : List Nat} {g : DG} {tt : DT} {te fa : DE}
theorem pd_compS (own : List (Str × Nat)) (hc : X.calm = true) (hN : X.N.Nodup) (hi : PDI X tg iter fi) (ok : BlkOk X.N X.env.scope scope own)
    (hg : ∀ (s : Shared) (H : Hp) (C : Addr) (cl : List (Str × Addr)) (fp : List Addr), PDG (X.blk s H scope (compEnvC scope cl C X.env) fp) tg ts g) (ht : ∀ (s : Shared) (H : Hp) (C : Addr) (cl : List (Str × Addr)) (fp : List Addr), PDTs (X.blk s H scope (compEnvC scope cl C X.env) fp) ifs tt)
    (he : ∀ (s : Shared) (H : Hp) (C : Addr) (cl : List (Str × Addr)) (fp : List Addr), PD (X.blk s H scope (compEnvC scope cl C X.env) fp) elt te) (hw : own.map (·.2) = ow := by rfl) (ho : ∀ k ∈ ts, k ∈ ow := by decide) (hs : ∀ x, foldedSetIterable iter X.env x = pure x := by intro _; rfl) :
    PD X (.SetComp elt [⟨tg, iter, ifs, 0⟩] scope pos) (dCompS fi (sStep g tt ow te)) := by
  subst hw
  exact PE.weak (pe_setc hc hN hi ok hg ht he hs) fun σ H Q q => rd_compS (c := ctx X) ho q
theorem pd_lenS (hg : Gl X "len") (hm : X.mg "len" = none) (ha : PD X e fa) (he : starEach [e] X.env = (false, eval e X.env) :: starEach [] X.env := by rfl) : PD X (.Call (.Name "len" p) [e] [] pos) (dLenS fa) :=
  PE.weak (pe_callB cr_lenSt hg hm boot_len (pa_cons ha pa_nil he) (he := he) (hpl := rfl)) fun σ H Q ⟨F, ι, Γ, M, s, M', w, e, k⟩ => by
    obtain ⟨⟨sa, M1⟩, e1, e⟩ := Option.bind_eq_some_iff.mp e
    refine ⟨F, ι, Γ, M, sa, M1, w, e1, fun v ι1 H1 x1 r1 i1 => ?_⟩
    simp only at e
    split at e
    case h_2 => cases e
    split at e
    case h_2 => cases e
    rename_i hm
    split at e
    case isFalse => cases e
    rename_i hl
    cases e
    cases i1 with
    | ptr ha =>
      cases r1.at_ _ _ _ ha hm with
      | st h hS nd => exact ⟨_, _, _, rfl, h, by unfold scanBound; omega, k _ ι1 H1 x1 r1 (.dat (.int _))⟩
end
end EL
namespace EL
open PySem PySem.Spec PyProof.Rows L2

def bodyDict (P : Program) (w : World) (A : Around) (kx vx : Expr) : BodyT := fun env D Pp NB s =>
  wpAny (model P w) A (eval kx env) (fun kv t => wpAny (model P w) A (eval vx env) (fun vv t' => wpAny (model P w) A (dictSet D kv vv) (fun _ t'' => Pp t'') NB t') NB t) NB s
theorem fill_dict {P : Program} {w : World} {A : Around} {kx vx tg iter : Expr} {ifs : List Expr} {scope : Scope} {pos : Pos} :
    FillK P w A (.DictComp kx vx [⟨tg, iter, ifs, 0⟩] scope pos) tg iter ifs scope pos newDict { cls := .type "dict", data := .dict #[] } (bodyDict P w A kx vx) where
  cls := rfl
  made := fun h => wpAny_newObj_type h
  start := fun h0 h => codeAny_compStart_dict h0 h
  loop := fun I turn n s h => compLoop_anyD I turn n h
def lastN (c : Ct) (tk tv : TE) : TLast := fun D σ H Nx => tk σ H fun y G1 => tv σ G1 fun z G => ∃ (F ι : List Addr) (q : Addr) (kd d : EL.D) (kvs : List (EL.D × EL.D)) (xs : List (NestedKey × Addr × Value)),
  y = .ref q ∧ G D = some (.ext (DN (c.at F) D xs)) ∧ IsNs (c.at F) ι G xs kvs ∧ IsD (c.at F) ι G (.ref q) kd ∧ keyOk kd = true ∧ kvs.length < sizeLine ∧ IsD (c.at F) ι G z d ∧
  ∀ xs', IsNs (c.at F) ι G xs' (dPut kvs kd d) → Nx (upd G D (.ext (DN (c.at F) D xs')))
section
variable {X : Cx}
theorem dictSet_N {k : Nat} (hr : Room k X.A) {pz : List (Addr × Obj)} {s : Shared} {σ : L2.St} {H : Hp} {F ι : List Addr} {a q : Addr} {kd d : D} {kvs : List (D × D)} {xs : List (NestedKey × Addr × Value)} {v : V} {u : Value} {E : Value → Shared → Prop} {Q : Unit → Shared → Prop}
    (I : Inv X pz σ H s) (ha : H a = some (.ext (DN ((ctx X).at F) a xs))) (t : IsNs ((ctx X).at F) ι H xs kvs) (hk : IsD ((ctx X).at F) ι H (.ref q) kd) (ok : keyOk kd = true) (hl : kvs.length < sizeLine) (hv : IsD ((ctx X).at F) ι H v d) (rv : RelV v u)
    (hq : ∀ s' xs', Inv X pz σ (upd H a (.ext (DN ((ctx X).at F) a xs'))) s' → IsNs ((ctx X).at F) ι H xs' (dPut kvs kd d) → Q () s') : wpAny (model X.prog X.w) X.A (dictSet a (.ref q) u) Q E s := by
  obtain ⟨h1, h2, hd⟩ := dn_at I ha t
  refine wpAny_dictSet_heap (hsz := h2) (room8 hr).1 (key_is I ok hk) hd fun h' hd' sb => ?_
  have hz : (storedH xs (nk kd) q u).length ≤ sizeLine := by
    have := stored_len xs (nk kd) q u
    have := t.len
    omega
  obtain ⟨o', _, _, e1, _⟩ := id hd'
  refine hq _ _ (I.write (x := a) (e := a) (o := .ext (DN ((ctx X).at F) a (storedH xs (nk kd) q u))) (h' := h') (t' := _) (by rw [ha]; trivial) (.inl rfl) (fun b ob hb e => (sb.2 b hb).trans e) ⟨o', e1⟩ ?_) (t.put hk ok rv hv)
  exact dn_obj h1 hz hd'
theorem pe_dcN {k : Nat} (hr : Room k X.A) {kx vx tg iter : Expr} {ifs : List Expr} {scope : Scope} {own : List (Str × Nat)} {pos : Pos} {wi : TI} {g : TG} {tt : TT} {tk tv : TE} (hc : X.calm = true) (hN : X.N.Nodup) (hi : PI X tg iter wi) (ok : BlkOk X.N X.env.scope scope own)
    (hg : ∀ (s : Shared) (H : Hp) (C : Addr) (cl : List (Str × Addr)) (fp : List Addr), PG (X.blk s H scope (compEnvC scope cl C X.env) fp) tg g)
    (ht : ∀ (s : Shared) (H : Hp) (C : Addr) (cl : List (Str × Addr)) (fp : List Addr), PTs (X.blk s H scope (compEnvC scope cl C X.env) fp) ifs tt)
    (hk : ∀ (s : Shared) (H : Hp) (C : Addr) (cl : List (Str × Addr)) (fp : List Addr), PE (X.blk s H scope (compEnvC scope cl C X.env) fp) kx tk)
    (he : ∀ (s : Shared) (H : Hp) (C : Addr) (cl : List (Str × Addr)) (fp : List Addr), PE (X.blk s H scope (compEnvC scope cl C X.env) fp) vx tv)
    (hs : ∀ x, foldedSetIterable iter X.env x = pure x := by intro _; rfl) :
    PE X (.DictComp kx vx [⟨tg, iter, ifs, 0⟩] scope pos) (tFill (fun D => .ext (DN (ctx X) D [])) wi g tt (lastN (ctx X) tk tv) (own.map (·.2))) := by
  refine ⟨fun pz s σ H Q I h => ?_⟩
  rw [arm_eval_DictComp]
  refine fill_core fill_dict (fun h G hb => dn_obj (c := ctx X) (beq_eq_false_iff_ne.mpr (Ne.symm (Nat.ne_of_lt hb))) (Nat.zero_le _) (Heap.DictOfH.new h)) hc hN I hi ok hg ht (fun s H C cl fp pz t σ' G D Nx P NB I q fin => ?_) hs h fun D C s' m H' I' q hn f => ⟨m, hn, fun h'' sb => ?_⟩
  · show wpAny _ _ (eval kx _) _ _ _
    refine thnF ((hk s H C cl fp).run _ t σ' G _ I q) fun u1 t2 ⟨y, G2, I2, r2, q2⟩ => ?_
    refine thnF ((he s H C cl fp).run _ t2 σ' G2 _ I2 q2) fun u2 t3 ⟨z, G3, I3, r3, F, ι, b, kd, d, kvs, xs, ey, h1, h2, h3, h4, h5, h6, nx⟩ => ?_
    subst ey
    cases r2
    exact dictSet_N (X := X.blk s H scope (compEnvC scope cl C X.env) fp) hr I3 h1 h2 h3 h4 h5 h6 r3 fun t4 xs' I4 tx => fin t4 _ I4 (nx xs' tx)
  · obtain ⟨f0, f1, f2, f3, f4, f5⟩ := f
    exact ⟨.ref D, H', I'.turned (t' := s'.toks) (fun b o hb e => (sb.2 b hb).trans e) f0 f1 f3 f4 f5, rfl, q⟩
end
abbrev NSt := SV → Sto → List (D × D) → Option (List (D × D) × Sto)
def itN (it : DIt) (step : NSt) : Nat → Nat → Sto → List (D × D) → Option (List (D × D) × Sto)
  | 0, _, _, _ => none
  | k + 1, i, M, acc => match it M i with
    | none => none
    | some none => some (acc, M)
    | some (some d) => (step d M acc).bind fun r => itN it step k (i + 1) r.2 r.1
def nStep (tg : DG) (tt : DT) (own : List Nat) (tk tv : DE) (Γ : Ga) : NSt := fun d M acc => (tg d M (wipeG Γ own)).bind fun Γ1 => (tt Γ1 M).bind fun b =>
  if b.1 = true then (tk Γ1 b.2).bind fun p => (tv Γ1 p.2).bind fun q => (match p.1, q.1 with
    | .dat kd, .dat d => if keyOk kd = true ∧ acc.length < LIM then some (dPut acc kd d, q.2) else none
    | _, _ => none) else some (acc, b.2)
/-- {k: v for .. in ..}, keys tuples: a new dict -/
def dCompN (fi : DI) (step : Ga → NSt) : DE := fun Γ M => (fi Γ M).bind fun p => (itN p.1.1 (step Γ) (p.1.2 + 1) 0 p.2 []).map fun r => (.ptr r.2.length, r.2 ++ [.fl (.dict ((.none, .none) :: r.1))])
def NIs (c : Ct) (ι : List Addr) (H : Hp) (Dp : Addr) (acc : List (D × D)) : Prop := ∃ xs, H Dp = some (.ext (DN c Dp xs)) ∧ IsNs c ι H xs acc
def CInvN (c : Ct) (F : List Addr) (ι1 : List Addr) (H1 : Hp) (Dp : Addr) (H : Hp) (M : Sto) (acc : List (D × D)) : Prop :=
  ∃ ι, Ext ι1 H1 ι H ∧ Rep (c.at (Dp :: F)) ι H M ∧ NIs (c.at (Dp :: F)) ι H Dp acc
theorem isD_tup {c : Ct} {ι : List Addr} {H : Hp} {v : V} {kd : D} (h : IsD c ι H v kd) (ok : keyOk kd = true) : ∃ q, v = .ref q := by
  cases h with
  | tup h t => exact ⟨_, rfl⟩
  | non => cases ok
  | bl b => cases ok
  | int i => cases ok
  | str x => cases ok
  | lst h ha t => cases ok
  | dK h ha t => cases ok
  | dN h ha t => cases ok
theorem compN_turn {c : Ct} {F ι1 ι : List Addr} {σ : L2.St} {H1 H : Hp} {Γ : Ga} {M M' : Sto} {Dp : Addr} {g : DG} {tt : DT} {tk tv : DE} {own ts : List Nat} {d : SV} {acc acc' : List (D × D)} {v : V} {Nx : Hp → Prop} (ho : ∀ k ∈ ts, k ∈ own) (hD : H1 Dp = none)
    (w : Wd (c.at (Dp :: F)) ι σ H Γ M) (x : Ext ι1 H1 ι H) (hp : NIs (c.at (Dp :: F)) ι H Dp acc) (hd : IsS (c.at (Dp :: F)) ι H v d) (e : nStep g tt own tk tv Γ d M acc = some (acc', M'))
    (k : ∀ ι' H', Ext ι1 H1 ι' H' → Rep (c.at (Dp :: F)) ι' H' M' → NIs (c.at (Dp :: F)) ι' H' Dp acc' → Nx H') :
    rdG c ts g v (L2.wipe σ own) H fun σ2 H2 => L2.wipe σ2 own = L2.wipe σ own ∧ rdT c tt σ2 H2 fun b H3 => if b = true then lastN c (rdE c tk) (rdE c tv) Dp σ2 H3 Nx else Nx H3 := by
  obtain ⟨Γ1, e1, e⟩ := Option.bind_eq_some_iff.mp e
  obtain ⟨⟨b, M4⟩, e2, e⟩ := Option.bind_eq_some_iff.mp e
  refine ⟨Dp :: F, ι, wipeG Γ own, M, d, Γ1, w.wipe own, hd, e1, fun σ3 a3 w3 => ⟨AtMost.wipe (a3.mono ho) |>.trans ?_, ?_⟩⟩
  · apply List.ext_getElem?
    intro j
    rw [wipe_at, wipe_at]
    by_cases hk : j ∈ own
    · rw [if_pos hk, if_pos hk]
      cases σ[j]? <;> rfl
    · rw [if_neg hk]
  · refine ⟨Dp :: F, ι, Γ1, M, b, M4, w3, e2, fun ι4 H4 x4 r4 => ?_⟩
    have hn : Dp ∉ ι := (w.rep.fr Dp List.mem_cons_self).1
    obtain ⟨xs, h1, h2⟩ := hp
    have hp4 := x4.keep Dp _ hn h1
    cases b with
    | false =>
      rw [if_neg Bool.false_ne_true] at e
      cases e
      exact iteF (k ι4 H4 (x.trans x4) r4 ⟨xs, hp4, h2.mono x4⟩)
    | true =>
      rw [if_pos rfl] at e
      obtain ⟨⟨s5, M5⟩, e5, e⟩ := Option.bind_eq_some_iff.mp e
      obtain ⟨⟨s6, M6⟩, e6, e⟩ := Option.bind_eq_some_iff.mp e
      refine iteT ⟨Dp :: F, ι4, Γ1, M4, s5, M5, w3.next x4 r4, e5, fun v5 ι5 H5 x5 r5 i5 => ?_⟩
      refine ⟨Dp :: F, ι5, Γ1, M5, s6, M6, (w3.next x4 r4).next x5 r5, e6, fun v6 ι6 H6 x6 r6 i6 => ?_⟩
      simp only at e
      split at e
      case h_2 => cases e
      rename_i kd d6 _
      split at e
      case isFalse => cases e
      rename_i hl
      cases e
      have hn4 : Dp ∉ ι4 := (r4.fr Dp List.mem_cons_self).1
      have hn5 : Dp ∉ ι5 := (r5.fr Dp List.mem_cons_self).1
      have i5' : IsD (c.at (Dp :: F)) ι5 H5 v5 kd := by cases i5 with | dat i5 => exact i5
      have i6' : IsD (c.at (Dp :: F)) ι6 H6 v6 d6 := by cases i6 with | dat i6 => exact i6
      obtain ⟨q, rfl⟩ := isD_tup i5' hl.1
      have xx := x4.trans (x5.trans x6)
      have x1 := x.trans xx
      refine ⟨Dp :: F, ι6, q, kd, d6, acc, xs, rfl, x6.keep Dp _ hn5 (x5.keep Dp _ hn4 hp4), h2.mono xx, i5'.mono x6, hl.1, lim_lt (Nat.le_of_lt hl.2), i6', fun xs' tx => ?_⟩
      have hm : Dp ∈ (c.at (Dp :: F)).F := List.mem_cons_self
      have dm : ∀ a, upd H6 Dp (.ext (DN (c.at (Dp :: F)) Dp xs')) a = none → H6 a = none := fun a h => by
        by_cases e : a = Dp
        · rw [e, upd_same] at h; cases h
        · rwa [upd_ne e] at h
      refine k ι6 _ ⟨x1.pre, fun a o n h => ?_, fun a h => x1.dom a (dm a h)⟩ (r6.writeF hm) ⟨xs', upd_same, tx.updF hm⟩
      rw [upd_ne (ne_of_none h hD)]
      exact x1.keep a o n h
theorem rd_compN {c : Ct} {fi : DI} {ts own : List Nat} {g : DG} {tt : DT} {tk tv : DE} {σ : L2.St} {H : Hp} {Q : VK} (ho : ∀ k ∈ ts, k ∈ own) (q : rdE c (dCompN fi (nStep g tt own tk tv)) σ H Q) :
    tFill (fun D => .ext (DN c D [])) (rdI c fi) (rdG c ts g) (rdT c tt) (lastN c (rdE c tk) (rdE c tv)) own σ H Q := by
  obtain ⟨F, ι, Γ, M, s, M', w, e, k⟩ := q
  obtain ⟨⟨⟨it, n⟩, M1⟩, e1, e⟩ := Option.bind_eq_some_iff.mp e
  obtain ⟨⟨acc', Mr⟩, er, e⟩ := Option.map_eq_some_iff.mp e
  cases e
  refine ⟨F, ι, Γ, M, (it, n), M1, w, e1, fun J ι1 H1 x1 r1 j1 => ?_⟩
  intro Dp hD
  have w1 := w.next x1 r1
  have hF : Dp ∉ F := fun h => by
    obtain ⟨_, o, z⟩ := r1.fr Dp h
    rw [hD] at z; cases z
  refine ⟨fun i m H2 => ∃ M2 acc, CInvN c F ι1 H1 Dp H2 M2 acc ∧ itN it (nStep g tt own tk tv Γ) m i M2 acc = some (acc', Mr), ⟨n + 1, M1, [], ⟨ι1, .new hD, r1.hide hD, [], upd_same, .nil⟩, er⟩, ?_⟩
  rintro i m H2 ⟨M2, acc, ci, e2⟩
  obtain ⟨ι2, x2, r2, hp⟩ := id ci
  cases m with
  | zero => cases e2
  | succ m =>
    obtain ⟨j2, j3⟩ := j1 (Dp :: F) ι2 H2 M2 i (fun a h => by
      rcases List.mem_cons.mp h with h | h
      · rw [h]; exact .inr hD
      · exact .inl h) x2.toF r2
    rw [itN] at e2
    split at e2
    · cases e2
    · rename_i hit
      cases e2
      obtain ⟨xs, h1, h2⟩ := hp
      have hn : Dp ∉ ι2 := (r2.fr Dp List.mem_cons_self).1
      exact .inl ⟨j2 hit, k (.ref Dp) (ι2 ++ [Dp]) H2 (x1.trans (x2.trans' hn hD)) (r2.showP hF (.fl (.dN h1 h2))) (.ptr (ptr_last r2.len))⟩
    · rename_i d hit
      obtain ⟨g1, g2⟩ := j3 d hit
      obtain ⟨⟨acc5, M5⟩, e3, e2⟩ := Option.bind_eq_some_iff.mp e2
      refine .inr ⟨g1, fun H5 => ∃ M5 acc5, CInvN c F ι1 H1 Dp H5 M5 acc5 ∧ itN it (nStep g tt own tk tv Γ) m (i + 1) M5 acc5 = some (acc', Mr), fun H5 ⟨M5, acc5, a, b⟩ => ⟨m, Nat.lt_succ_self m, M5, acc5, a, b⟩, fun x H3 y => ?_⟩
      obtain ⟨x3, r3, hd⟩ := g2 x H3 y
      have hn : Dp ∉ ι2 := (r2.fr Dp List.mem_cons_self).1
      obtain ⟨xs, h1, h2⟩ := hp
      exact compN_turn ho hD (w1.hide hD (x2.trans x3) r3) (x2.trans x3) ⟨xs, x3.keep Dp _ hn h1, h2.mono x3⟩ hd e3 fun ι' H' q1 q2 q3 => ⟨M5, acc5, ⟨ι', q1, q2, q3⟩, e2⟩
section
variable {W : WX} {X : Cx} {kx vx tg iter : Expr} {ifs : List Expr} {scope : Scope} {pos : Pos} {fi : DI} {ts ow : List Nat} {g : DG} {tt : DT} {tk tv : DE}
theorem pd_compN {k : Nat} (hr : Room k X.A) (own : List (Str × Nat)) (hc : X.calm = true) (hN : X.N.Nodup) (hi : PDI X tg iter fi) (ok : BlkOk X.N X.env.scope scope own)
    (hg : ∀ (s : Shared) (H : Hp) (C : Addr) (cl : List (Str × Addr)) (fp : List Addr), PDG (X.blk s H scope (compEnvC scope cl C X.env) fp) tg ts g) (ht : ∀ (s : Shared) (H : Hp) (C : Addr) (cl : List (Str × Addr)) (fp : List Addr), PDTs (X.blk s H scope (compEnvC scope cl C X.env) fp) ifs tt)
    (hk : ∀ (s : Shared) (H : Hp) (C : Addr) (cl : List (Str × Addr)) (fp : List Addr), PD (X.blk s H scope (compEnvC scope cl C X.env) fp) kx tk)
    (he : ∀ (s : Shared) (H : Hp) (C : Addr) (cl : List (Str × Addr)) (fp : List Addr), PD (X.blk s H scope (compEnvC scope cl C X.env) fp) vx tv) (hw : own.map (·.2) = ow := by rfl) (ho : ∀ k ∈ ts, k ∈ ow := by decide) (hs : ∀ x, foldedSetIterable iter X.env x = pure x := by intro _; rfl) :
    PD X (.DictComp kx vx [⟨tg, iter, ifs, 0⟩] scope pos) (dCompN fi (nStep g tt ow tk tv)) := by
  subst hw
  exact PE.weak (pe_dcN hr hc hN hi ok hg ht hk he hs) fun σ H Q q => rd_compN (c := ctx X) ho q
end
end EL
namespace EL
open PySem PySem.Spec PyProof.Rows L2

section
variable {P : Program} {w : World} {A : Around} {E : Value → Shared → Prop} {s : Shared}
/-- what the filled set is -/
def Filled (P : Program) (w : World) (s : Shared) (ks : List (Addr × List Int)) (t : Shared) : Prop := ∃ (g : Heap) (n : Nat) (L : List (Addr × List Int)) (es : Array (Int × Value)) (ep : Nat) (tb : SetTable),
  t = { s with heap := g, toks := n } ∧ SetTR P w g s.heap.objs.size L es ep tb ∧ Got ks ks.length L ∧ ∀ b o, s.heap.get? b = some o → g.get? b = some o
set_option maxHeartbeats 3200000 in
theorem set_of_tuple {l : Addr} {items : Array Value} (ks : List (Addr × List Int)) {Q : Value → Shared → Prop} (hh : A.handled = none) (hl : s.heap.IsTuple l items) (hit : items.toList = ks.map fun p => Value.ref p.1)
    (hk : ∀ p ∈ ks, IsT P w s.heap p.2 p.1) (few : ks.length < 64) (hu : A.units + 3 < cLine) (h : ∀ t, Filled P w s ks t → Q (.ref s.heap.objs.size) t) : wpAny (model P w) A (call (.type "set") [.ref l]) Q E s := by
  have nI : items.size = ks.length := by
    have q := congrArg List.length hit
    simpa using q
  have m0 := F.called_set.mro
  obtain ⟨mc, mt, hmro⟩ := m0
  have k1 := F.called_set.made
  have k2 := F.called_set.sub
  have k3 := F.called_set.notType
  have k4 := F.called_set.canCreate
  have k5 := F.typeCall_set_1 (.ref l)
  refine wpAny_call (codeAny_of_tree ?_)
  show wpAny _ _ (callAny (.type "set") ⟨[.ref l], []⟩) _ _ _
  refine wpAny_pure ⟨Code.quiet_builtin _ (by decide +kernel), ?_⟩
  refine codeAny_builtin F.entry_type_call ?_
  rw [Around.under_plain (weight_type_call_type "set" [.ref l] []) rfl]
  repeat any_goals first | assumption | wp_step
  refine codeAny_mono (code_set_led1 (.ref l) (E := E) (Q₁ := fun x t => x = .ref s.heap.objs.size ∧ t = { s with heap := s.heap.push (newSetOb w) }) ⟨rfl, rfl⟩) fun r t1 hr => ?_
  cases r with
  | error e => exact hr
  | ok f1 =>
    cases f1 with
    | ret obj =>
      obtain ⟨rfl, rfl⟩ := hr
      have isS : (s.heap.push (newSetOb w)).get? s.heap.objs.size = some (newSetOb w) := Heap.get?_push_size _ rfl
      have hT : Shared.TypeIs { s with heap := s.heap.push (newSetOb w) } (.ref s.heap.objs.size) "set" := ⟨_, isS, rfl⟩
      have k6 := F.called_set.init.lookup
      have k7 := F.called_set.init.bind (.ref s.heap.objs.size)
      repeat any_goals first | assumption | wp_step
      refine codeAny_mono (codeAny_call_builtin (R := wants (fun r t2 => r = .none ∧ Filled P w s ks t2) E) F.called_set.init.plain F.entry_set_init (check_set_init_1 hT ?_)) fun r2 t2 hr2 => ?_
      · obtain ⟨⟨oc, odict, odata, oslots⟩, hol, hcl, nl, hdl⟩ := hl
        simp only at hcl hdl
        subst hcl
        subst hdl
        have at1 : (s.heap.push (newSetOb w)).get? l = some { cls := .type "tuple", dict := odict, data := .seq items nl, slots := oslots } := Heap.get?_push_of_some _ hol
        have k8 := F.sub_tuple_set
        have k9 := F.sub_tuple_frozenset
        have k10 : (Value.type "tuple" == Value.type "dict") = false := by decide
        have tup1 : (s.heap.push (newSetOb w)).IsTuple l items := ⟨_, at1, rfl, nl, rfl⟩
        unfold Builtin.«set.__init__» noKeywords Builtin.Frozenset.updateFrom
        generalize hit' : pyIter = goIter
        wp_walk
        subst hit'
        refine wpAny_pyIter_tuple tup1 (wpAny_bind (wpAny_runValue ?_))
        have below : l < s.heap.objs.size := Heap.lt_size hol
        have hh3 : A.in1.in1.in1.handled = none := by simp [hh]
        have sz1 : (s.heap.push (newSetOb w)).objs.size = s.heap.objs.size + 1 := Heap.size_push ..
        have neI : l ≠ (s.heap.push (newSetOb w)).objs.size := by
          rw [sz1]
          exact Nat.ne_of_lt (Nat.lt_succ_of_lt below)
        have outF : s.heap.objs.size ∉ [(s.heap.push (newSetOb w)).objs.size, l] := by
          rw [sz1]
          intro hm
          rcases List.mem_cons.mp hm with e | hm
          · exact absurd e (Nat.ne_of_lt (Nat.lt_succ_self _))
          · exact absurd (List.mem_singleton.mp hm) (Nat.ne_of_gt below)
        have vals : ∀ (i : Nat) (v : Value), items[i]? = some v → ∃ p, ks[i]? = some p ∧ v = .ref p.1 := by
          intro i v hv
          rw [← Array.getElem?_toList, hit, List.getElem?_map] at hv
          obtain ⟨p, hp, rfl⟩ := Option.map_eq_some_iff.mp hv
          exact ⟨p, hp, rfl⟩
        have gone : ∀ b, s.heap.objs.size ≤ b → s.heap.get? b = none := by
          intro b hb
          cases q : s.heap.get? b with
          | none => rfl
          | some o => exact absurd (Heap.lt_size q) (Nat.not_lt.mpr hb)
        refine set_update_tups ((Walks.tuple hh3 _ l neI items).toS) s.heap.objs.size outF ks nI few vals s.heap hk (gone _ (Nat.le_refl _)) (fun b hb => gone b (by rw [List.mem_singleton.mp hb, sz1]; exact Nat.le_succ _)) hu (items.size - 0) 0 _ (by omega) (Nat.zero_le _)
          ⟨⟨_, Heap.get?_push_size _ rfl, rfl, rfl⟩, (tup1.push _)⟩ (fun b o e => Heap.get?_push_of_some _ (Heap.get?_push_of_some _ e)) ⟨[], #[], 0, _, setTR_fresh (Heap.get?_push_of_some _ isS), Got.zero ks⟩ ?_
        intro t3 L es ep tb moved R3 got keep
        obtain ⟨g3, gens3, drawn3, toks3, os3⟩ := t3
        obtain rfl : gens3 = s.gens := moved.gens
        obtain rfl : drawn3 = s.drawn := moved.drawn
        obtain rfl : os3 = s.os := moved.os
        show wpAny _ _ _ _ _ _
        refine wpAny_pure ?_
        show wpAny _ _ (ret Value.none) _ _ _
        rw [nI] at got
        exact wpAny_pure ⟨rfl, g3, toks3, L, es, ep, tb, rfl, R3, got, keep⟩
      · cases r2 with
        | error e => exact hr2
        | ok f2 =>
          cases f2 with
          | ret r =>
            obtain ⟨rfl, filled⟩ := hr2
            repeat any_goals first | assumption | wp_step
            exact h _ filled
          | _ => exact hr2.elim
    | _ => exact hr.elim
end
end EL
namespace EL
open PySem PySem.Spec PyProof.Rows L2

abbrev P2 := Int × Int
def prI (p : P2) : D := .tuple [.int p.1, .int p.2]
def prL (p : P2) : List Int := [p.1, p.2]
def prsD : List D → Option (List P2)
  | [] => some []
  | .tuple [.int i, .int j] :: r => (prsD r).map ((i, j) :: ·)
  | _ => none
theorem prsD_eq : ∀ {ds : List D} {ps : List P2}, prsD ds = some ps → ds = ps.map prI := by
  intro ds ps h
  induction ds generalizing ps with
  | nil => cases h; rfl
  | cons d r ih =>
    unfold prsD at h
    split at h
    · rename_i h2; cases h2
    · rename_i i j r' h2
      cases h2
      obtain ⟨ps', e, rfl⟩ := Option.map_eq_some_iff.mp h
      rw [ih e]; rfl
    · cases h
theorem prsD_map (ps : List P2) : prsD (ps.map prI) = some ps := by
  induction ps with
  | nil => rfl
  | cons p r ih =>
    show (prsD (r.map prI)).map _ = _
    rw [ih]; rfl
/-- all small pairs in order -/
def allP : List P2 := (List.range 8).flatMap fun i : Nat => (List.range 8).map fun j : Nat => ((i : Int), (j : Int))
def codeP (p : P2) : Int := p.1 * 64 + p.2
theorem allP_nd : allP.Nodup := by decide +kernel
theorem allP_pw : allP.Pairwise fun p q => codeP p ≤ codeP q := by decide +kernel
def SmallP (p : P2) : Prop := (0 ≤ p.1 ∧ p.1 < 8) ∧ 0 ≤ p.2 ∧ p.2 < 8
instance (p : P2) : Decidable (SmallP p) := by unfold SmallP; infer_instance
theorem allP_mem {p : P2} (h : SmallP p) : p ∈ allP := by
  obtain ⟨i, j⟩ := p
  obtain ⟨⟨h1, h2⟩, h3, h4⟩ := h
  refine List.mem_flatMap.mpr ⟨i.toNat, List.mem_range.mpr (by simp only at h1 h2; omega), List.mem_map.mpr ⟨j.toNat, List.mem_range.mpr (by simp only at h3 h4; omega), ?_⟩⟩
  simp only at h1 h3
  rw [Int.toNat_of_nonneg h1, Int.toNat_of_nonneg h3]
/-- each pair once, in order -/
def canon (ps : List P2) : List P2 := allP.filter (· ∈ ps)
theorem canon_nd (ps : List P2) : (canon ps).Nodup := allP_nd.filter _
theorem canon_mem {ps : List P2} (h : ∀ p ∈ ps, SmallP p) {p : P2} : p ∈ canon ps ↔ p ∈ ps := by
  unfold canon
  rw [List.mem_filter]
  exact ⟨fun z => of_decide_eq_true z.2, fun z => ⟨allP_mem (h p z), decide_eq_true z⟩⟩
theorem canon_eq {ps l : List P2} (h : ∀ p ∈ ps, SmallP p) (nd : l.Nodup) (pw : l.Pairwise fun p q => codeP p ≤ codeP q) (hm : ∀ p, p ∈ l ↔ p ∈ ps) : l = canon ps := by
  refine List.Perm.eq_of_pairwise (le := fun p q => codeP p ≤ codeP q) (fun a b ha hb h1 h2 => ?_) pw (allP_pw.filter _) ((List.perm_ext_iff_of_nodup nd (canon_nd ps)).mpr fun p => (hm p).trans (canon_mem h).symm)
  obtain ⟨⟨a1, a2⟩, a3, a4⟩ := h a ((hm a).mp ha)
  obtain ⟨⟨b1, b2⟩, b3, b4⟩ := h b ((canon_mem h).mp hb)
  obtain ⟨i, j⟩ := a
  obtain ⟨k, l⟩ := b
  simp only [codeP] at *
  have : i = k := by omega
  have : j = l := by omega
  simp [*]
def oSortSet : D → Option OR
  | .tuple ds => (prsD ds).bind fun ps => if ps.length < 64 ∧ ∀ p ∈ ps, SmallP p then some (.new (.list ((canon ps).map prI))) else none
  | _ => none
def rSetT (K : PySem.W.Frag) (P : Program) (w : World) : List V → Hp → VK → Prop := fun xs H Q => ∃ (l : Addr) (ks : List (Addr × List Int)), xs = [V.ref l] ∧ SqT K H l (ks.map fun p => V.ref p.1) ∧ (∀ p ∈ ks, SqT K H p.1 (p.2.map V.int)) ∧ ks.length < 64 ∧
  ∀ a L, H a = none → (∀ p ∈ L, p ∈ ks) → (∀ p ∈ ks, p.2 ∈ L.map (·.2)) → Q (.ref a) (upd H a (SetTO P w a L))
section
variable {X : Cx}
theorem cr_setT (hc : X.calm = true) (hu : X.A.units + 64 < cLine) : CallR X (.type "set") (rSetT X.K X.prog X.w) := by
  intro pins s σ H xs us Q I r h
  obtain ⟨l, ks, rfl, hl, hk, few, q⟩ := h
  rw [Vals.ref1 r]
  obtain ⟨its, rv, pl, hz⟩ := I.tuple hl
  refine set_of_tuple (P := X.prog) (w := X.w) ks (I.ok.hd hc) pl (by simpa using refs_of_vals rv) (fun p hp => I.isT (hk p hp)) few (by omega) fun t ht => ?_
  obtain ⟨g, n, L, es, ep, tb, rfl, R, got, keep⟩ := ht
  refine ⟨.ref s.heap.objs.size, upd H s.heap.objs.size (SetTO X.prog X.w s.heap.objs.size L), I.laid (t' := n) keep (Nat.le_refl _) (setTO_new R.t0), rfl, q _ L (I.hok.fresh (Nat.le_refl _)) (fun p hp => List.mem_of_mem_take (got.sub p hp)) fun p hp => ?_⟩
  refine got.all p ?_
  rw [List.take_length]
  exact hp
end
theorem tups_of {c : Ct} {ι : List Addr} {H : Hp} : ∀ {xs : List V} {ps : List P2}, IsDs c ι H xs (ps.map prI) → ∃ ks : List (Addr × List Int), xs = ks.map (fun p => V.ref p.1) ∧ ks.map (·.2) = ps.map prL ∧ ∀ p ∈ ks, IsD c ι H (.ref p.1) (.tuple (p.2.map .int))
  | [], [], _ => ⟨[], rfl, rfl, fun _ h => nomatch h⟩
  | v :: xs, p :: ps, .cons h t => by
    obtain ⟨ks, e1, e2, e3⟩ := tups_of (ps := ps) t
    obtain ⟨a, ys, rfl, _, _, _⟩ := (Rdb.ofD h).tup
    refine ⟨(a, prL p) :: ks, by rw [e1]; rfl, by rw [List.map_cons, e2]; rfl, fun q hq => ?_⟩
    rcases List.mem_cons.mp hq with rfl | hq
    · exact h
    · exact e3 q hq
  | [], _ :: _, h => nomatch h
  | _ :: _, [], h => nomatch h
theorem isD_ints {c : Ct} {ι : List Addr} {H : Hp} {a : Addr} {ns : List Int} (h : IsD c ι H (.ref a) (.tuple (ns.map .int))) : SqT c.K H a (ns.map V.int) := by
  obtain ⟨b, ys, e, hs, t, _⟩ := (Rdb.ofD h).tup
  cases e
  rw [← t.ints]
  exact hs
theorem isDs_of {c : Ct} {ι : List Addr} {H : Hp} : ∀ (L : List (Addr × List Int)) (l : List P2), L.map (·.2) = l.map prL → (∀ q ∈ L, IsD c ι H (.ref q.1) (.tuple (q.2.map .int))) → IsDs c ι H (L.map fun q => V.ref q.1) (l.map prI)
  | [], [], _, _ => .nil
  | q :: L, p :: l, e, h => by
    rw [List.map_cons, List.map_cons] at e
    have e1 := (List.cons.inj e).1
    have hq := h q List.mem_cons_self
    rw [e1] at hq
    exact .cons hq (isDs_of L l (List.cons.inj e).2 fun x hx => h x (List.mem_cons_of_mem _ hx))
  | [], _ :: _, e, _ => nomatch e
  | _ :: _, [], e, _ => nomatch e
theorem pull_pr : ∀ {M : List (List Int)} {ps : List P2}, (∀ x ∈ M, x ∈ ps.map prL) → ∃ l : List P2, M = l.map prL ∧ ∀ p ∈ l, p ∈ ps
  | [], _, _ => ⟨[], rfl, fun _ h => nomatch h⟩
  | x :: M, ps, h => by
    obtain ⟨p, hp, rfl⟩ := List.mem_map.mp (h x List.mem_cons_self)
    obtain ⟨l, e, hl⟩ := pull_pr (M := M) (ps := ps) fun y hy => h y (List.mem_cons_of_mem _ hy)
    refine ⟨p :: l, by rw [e]; rfl, fun q hq => ?_⟩
    rcases List.mem_cons.mp hq with rfl | hq
    · exact hp
    · exact hl q hq
theorem prL_inj {p q : P2} (h : prL p = prL q) : p = q := by
  obtain ⟨a, b⟩ := p
  obtain ⟨c, d⟩ := q
  simp [prL] at h
  simp [h]
theorem codeP_eq (p : P2) : TS.code 64 (prL p) = codeP p := code_pair p.1 p.2
section
variable {X : Cx} {e : Expr} {fa : DE} {p p2 pos q : Pos}
theorem pd_sortSet {k : Nat} (hr : Room k X.A) (hc : X.calm = true) (hg : Gl X "sorted") (hm : X.mg "sorted" = none) (hg2 : Gl X "set") (hm2 : X.mg "set" = none) (ha : PD X e fa)
    (he : starEach [e] X.env = (false, eval e X.env) :: starEach [] X.env := by rfl) (he2 : starEach [.Call (.Name "set" p2) [e] [] q] X.env = (false, eval (.Call (.Name "set" p2) [e] [] q) X.env) :: starEach [] X.env := by rfl) :
    PD X (.Call (.Name "sorted" p) [.Call (.Name "set" p2) [e] [] q] [] pos) (dUn oSortSet fa) :=
  PE.weak (pe_callB (cr_sortedT hc) hg hm PyProof.Rows.boot_sorted (pa_cons (pe_callTy (cr_setT hc (by have := hr.un; omega)) hg2 hm2 PyProof.Rows.boot_set (pa_cons ha pa_nil he) (he := he) (hpl := rfl)) pa_nil he2) (he := he2) (hpl := rfl)) fun σ H Q ⟨F, ι, Γ, M, s, M', w, e, k⟩ => by
    obtain ⟨⟨sa, M1⟩, e1, e⟩ := Option.bind_eq_some_iff.mp e
    obtain ⟨d, e2, e⟩ := Option.bind_eq_some_iff.mp e
    obtain ⟨o, e3, e⟩ := Option.map_eq_some_iff.mp e
    refine ⟨F, ι, Γ, M, sa, M1, w, e1, fun v ι1 H1 x1 r1 i1 => ?_⟩
    unfold oSortSet at e3
    split at e3
    case h_2 => cases e3
    rename_i ds
    obtain ⟨ps, e4, e3⟩ := Option.bind_eq_some_iff.mp e3
    split at e3
    case isFalse => cases e3
    rename_i hb
    cases e3
    cases e
    obtain ⟨few, small⟩ := hb
    have hd := prsD_eq e4
    subst hd
    have R : Rdb ((ctx X).at F) ι1 H1 v (.tuple (ps.map prI)) := by
      cases i1 with
      | dat i1 => cases e2; exact .ofD i1
      | ptr ha =>
        have e5 := flD_some (show flD M1[_]? = some _ from e2)
        cases r1.at_ _ _ _ ha e5 with
        | fl h => exact .own h
    obtain ⟨a, xs, rfl, hs, t, _⟩ := R.tup
    obtain ⟨ks, rfl, e6, hks⟩ := tups_of t
    have len : ks.length = ps.length := by
      have := congrArg List.length e6
      simpa using this
    refine ⟨a, ks, rfl, hs, fun p hp => isD_ints (hks p hp), by omega, fun b L hb sub all => ?_⟩
    have x2 : Ext ι1 H1 ι1 (upd H1 b (SetTO X.prog X.w b L)) := .new hb
    have r2 : Rep ((ctx X).at F) ι1 (upd H1 b (SetTO X.prog X.w b L)) M1 := r1.new hb
    have hL : ∀ p ∈ L, IsD ((ctx X).at F) ι1 (upd H1 b (SetTO X.prog X.w b L)) (.ref p.1) (.tuple (p.2.map .int)) := fun p hp => (hks p (sub p hp)).mono x2
    have inP : ∀ p ∈ L, p.2 ∈ ps.map prL := fun p hp => by
      rw [← e6]
      exact List.mem_map.mpr ⟨p, sub p hp, rfl⟩
    refine ⟨b, L, 2, 64, rfl, upd_same, fun p hp => isD_ints (hL p hp), by decide, fun p hp => ?_, fun L' c pm nd few' pw hc' => ?_⟩
    · obtain ⟨p', hp', e7⟩ := List.mem_map.mp (inP p hp)
      rw [← e7]
      obtain ⟨⟨s1, s2⟩, s3, s4⟩ := small p' hp'
      refine ⟨rfl, ?_⟩
      intro x hx
      simp only [prL, List.mem_cons, List.not_mem_nil, or_false] at hx
      rcases hx with rfl | rfl <;> omega
    · obtain ⟨l, e8, hl⟩ := pull_pr (M := L'.map (·.2)) (ps := ps) fun x hx => by
        obtain ⟨p, hp, rfl⟩ := List.mem_map.mp hx
        exact inP p (pm.mem_iff.mp hp)
      have hcan : l = canon ps := by
        refine canon_eq small ?_ ?_ fun p => ⟨hl p, fun hp => ?_⟩
        · rw [e8] at nd
          exact List.Pairwise.of_map prL (fun a b h e => h (congrArg prL e)) nd
        · have pw2 : (L'.map (·.2)).Pairwise fun a b => TS.code 64 a ≤ TS.code 64 b := List.pairwise_map.mpr pw
          rw [e8, List.pairwise_map] at pw2
          refine pw2.imp fun h => ?_
          rw [codeP_eq, codeP_eq] at h
          exact h
        · have h1 : prL p ∈ ks.map (·.2) := by
            rw [e6]
            exact List.mem_map.mpr ⟨p, hp, rfl⟩
          obtain ⟨q, hq, e9⟩ := List.mem_map.mp h1
          have h2 := all q hq
          rw [e9] at h2
          obtain ⟨q2, hq2, e10⟩ := List.mem_map.mp h2
          have h3 : prL p ∈ L'.map (·.2) := List.mem_map.mpr ⟨q2, pm.mem_iff.mpr hq2, e10⟩
          rw [e8] at h3
          obtain ⟨p3, hp3, e11⟩ := List.mem_map.mp h3
          rw [← prL_inj e11]
          exact hp3
      rw [hcan] at e8
      have tt := isDs_of L' (canon ps) e8 fun q hq => hL q (pm.mem_iff.mp hq)
      have kk : AftO ((ctx X).at F) ι1 (upd H1 b (SetTO X.prog X.w b L)) M1 false (.new (.list ((canon ps).map prI))) Q := fun v4 ι4 H4 x4 r4 i4 => k v4 ι4 H4 (x1.trans (x2.trans x4)) r4 i4
      exact kk.newL r2 tt hc'
end
def cPop0 : Cell → List SV → Option (Cell × SV)
  | .fl (.list (x :: xs)), [.dat (.int 0)] => some (.fl (.list xs), .dat x)
  | _, _ => none
section
variable {X : Cx} {o e : Expr} {fo : DE} {fr : DA} {apos cpos : Pos}
theorem pd_pop0 (ho : PD X o fo) (ha : PDA X [e] fr) (hbase : attributeBase o "pop" X.env (eval o X.env) = eval o X.env := by rfl) (hline : (apos.endLine == cpos.line) = true := by rfl) (hs : starEach [e] X.env = (false, eval e X.env) :: starEach [] X.env := by rfl)
    (hfew : ((backTo cpos (starEach [e] X.env)).all (fun x => !x.1) && (backToKw cpos (keywordEach [] X.env)).all (fun x => x.1.isSome)
      && decide ([e].length + ([] : List Keyword).length + (if ([] : List Keyword).isEmpty then 0 else 1) < 30)) = true := by rfl) : PD X (.Call (.Attribute o "pop" apos) [e] [] cpos) (dMethW "list" cPop0 fo fr) :=
  pd_methW PySem.F.plainAttrs_list PySem.F.slot_list_pop PySem.F.type_list_pop mt_popAt (fun F ι H M a n xs d d' res ds Q r ha ow t e k => by
    unfold cPop0 at e
    split at e
    · cases e
      cases ow with
      | fl ow =>
        cases ow with
        | @lst ys _ hp u =>
          cases u with
          | @cons y ys _ _ hy u =>
            cases t with
            | cons h t =>
              cases t
              cases h with
              | dat h =>
                cases h
                obtain ⟨x1, r1⟩ := r.putL ha u
                exact ⟨a, y :: ys, 0, 0, y, rfl, rfl, hp, by decide, by decide, by simp [seqIndex?], rfl, k _ _ x1 r1 (.dat (hy.mono x1))⟩
    · cases e) ho ha hbase hfew hline hs rfl
end
section
variable {X : Cx} {W : WX} {kx vx elt tg iter : Expr} {ifs : List Expr} {scope : Scope} {pos : Pos} {fi : DI} {ts ow : List Nat} {g : DG} {tt : DT} {tk tv te : DE} {m : Bool}
theorem fill_put {pz : List (Addr × Obj)} {σ : L2.St} {H : Hp} {s : Shared} {L C : Addr} {nm : Str → Option Value} {y : Str} {py : Pos} {i : Nat} {Z : Ends} (I : Inv X pz σ H s) (hN : X.N.Nodup) (hy : X.N[i]? = some y) (hyl : X.env.scope.names.lookup y = some .local)
    (q : gName i (.ref L) σ H Z.nx) (hn : s.heap.Ns C nm) (f : FpOk X pz H C) : compPost (model X.prog X.w) X.A X.xe (some (assign (.Name y py) X.env)) (fun _ t => SP X pz Z .next t) (.ref L) C (.ok .next) s := by
  obtain ⟨f0, f1, f2, f3, f4, f5⟩ := f
  show wpAny _ _ (assign (.Name y py) X.env (.ref L)) _ _ _
  refine wpAny_assign_Name (store_ok2 (v := V.ref L) I hN hy (.inl hyl) rfl (fun t It ⟨b, sb, hb⟩ => ⟨nm, hn.sameBut sb ?_, fun h3 sb3 => ?_⟩) (.inr hyl))
  · exact hb.elim (fun z => by rw [z]; exact f1) fun z e => f4 y b z e.symm
  · exact ⟨_, H, It.turned (t' := t.toks) (fun c o hc e => (sb3.2 c hc).trans e) f0 f1 f3 f4 f5, q⟩
theorem ps_setSc {i : Nat} {y : Str} {py spos : Pos} {own : List (Str × Nat)} {wi : TI} {g : TG} {tt : TT} {te : TE} (hc : X.calm = true) (hN : X.N.Nodup) (hy : X.N[i]? = some y) (hyl : X.env.scope.names.lookup y = some .local)
    (hsw : swapsWith (.SetComp elt [⟨tg, iter, ifs, 0⟩] scope pos) (some (.Name y py)) spos.line X.env = pure true) (hi : PI X tg iter wi) (ok : BlkOk X.N X.env.scope scope own)
    (hg : ∀ (s : Shared) (H : Hp) (C : Addr) (cl : List (Str × Addr)) (fp : List Addr), PG (X.blk s H scope (compEnvC scope cl C X.env) fp) tg g)
    (ht : ∀ (s : Shared) (H : Hp) (C : Addr) (cl : List (Str × Addr)) (fp : List Addr), PTs (X.blk s H scope (compEnvC scope cl C X.env) fp) ifs tt)
    (he : ∀ (s : Shared) (H : Hp) (C : Addr) (cl : List (Str × Addr)) (fp : List Addr), PE (X.blk s H scope (compEnvC scope cl C X.env) fp) elt te)
    (hs : ∀ x, foldedSetIterable iter X.env x = pure x := by intro _; rfl) :
    PS X (.Assign [.Name y py] (.SetComp elt [⟨tg, iter, ifs, 0⟩] scope pos) spos) (tAsg (tFill (fun D => SetO X.w D (fun _ => false) 0) wi g tt (lastSet X.w te) (own.map (·.2))) (gName i)) := by
  refine ⟨fun pz s σ H Z I h => ?_⟩
  rw [exec_Assign_Name_used _ _ _ _ hsw]
  refine wpAny_bind (wpAny_standAt (wpAny_bind ?_))
  show wpAny _ X.A (do let _ ← comprehension (.SetComp elt [⟨tg, iter, ifs, 0⟩] scope pos) scope X.env (firstIterPos [⟨tg, iter, ifs, 0⟩] pos) (newSet (.type "set")) false (eval iter X.env) (some (assign (.Name y py) X.env))) _ _ s
  have h : tFill (fun D => SetO X.w D (fun _ => false) 0) wi g tt (lastSet X.w te) (own.map (·.2)) σ H (fun x H1 => gName i x σ H1 Z.nx) := h
  refine wpAny_bind (thn (fill_core (Qf := fun _ t => SP X pz Z .next t) fill_set (fun h G _ => setO_new (setR_fresh (h := h) X.w)) hc hN I hi ok hg ht (fun s H C cl fp pz t σ' G D Nx P NB I q fin => ?_) hs h fun L C t nm H' I' q hn f => fill_put I' hN hy hyl q hn f) fun _ t hq => wpAny_pure (wpAny_pure hq))
  show wpAny _ _ (eval elt _) _ _ _
  refine thnF ((he s H C cl fp).run _ t σ' G _ I q) fun z t2 ⟨y, G2, I2, r2, k, S, n, ey, hD, room, nx⟩ => ?_
  subst ey
  exact thnF (mt_sadd _ t2 σ' G2 (.ref D) [.int k] (.ref D) [z] (fun _ G' => Nx G') I2 rfl (.cons r2 .nil) ⟨D, k, S, n, rfl, rfl, hD, room, nx⟩) fun _ t3 ⟨_, G3, I3, _, nx'⟩ => fin t3 G3 I3 nx'
theorem pds_setCompS (own : List (Str × Nat)) {i : Nat} {y : Str} {py spos : Pos} (hc : X.calm = true) (hN : X.N.Nodup) (hy : X.N[i]? = some y) (hyl : X.env.scope.names.lookup y = some .local)
    (hsw : swapsWith (.SetComp elt [⟨tg, iter, ifs, 0⟩] scope pos) (some (.Name y py)) spos.line X.env = pure true) (hi : PDI X tg iter fi) (ok : BlkOk X.N X.env.scope scope own)
    (hg : ∀ (s : Shared) (H : Hp) (C : Addr) (cl : List (Str × Addr)) (fp : List Addr), PDG (X.blk s H scope (compEnvC scope cl C X.env) fp) tg ts g) (ht : ∀ (s : Shared) (H : Hp) (C : Addr) (cl : List (Str × Addr)) (fp : List Addr), PDTs (X.blk s H scope (compEnvC scope cl C X.env) fp) ifs tt)
    (he : ∀ (s : Shared) (H : Hp) (C : Addr) (cl : List (Str × Addr)) (fp : List Addr), PD (X.blk s H scope (compEnvC scope cl C X.env) fp) elt te) (hw : own.map (·.2) = ow := by rfl) (ho : ∀ k ∈ ts, k ∈ ow := by decide) (hs : ∀ x, foldedSetIterable iter X.env x = pure x := by intro _; rfl) :
    PDS X W (.Assign [.Name y py] (.SetComp elt [⟨tg, iter, ifs, 0⟩] scope pos) spos) (sAsg i (dCompS fi (sStep g tt ow te))) := by
  subst hw
  refine PS.weak (ps_setSc (g := rdG (ctx X) ts g) (tt := rdT (ctx X) tt) (te := rdE (ctx X) te) hc hN hy hyl hsw hi ok hg ht he hs) fun E σ H ⟨F, ι, Γ, M, fl, Γ', M', w, e, k⟩ => ?_
  obtain ⟨⟨s, M1⟩, e1, e⟩ := Option.bind_eq_some_iff.mp e
  cases e
  exact rd_compS (c := ctx X) ho ⟨F, ι, Γ, M, s, M1, w, e1, fun v ι1 H1 x1 r1 i1 => k ι1 _ H1 x1 ((w.next x1 r1).set i1 i)⟩
theorem ps_setDc {i : Nat} {y : Str} {py spos : Pos} {own : List (Str × Nat)} {wi : TI} {g : TG} {tt : TT} {tk tv : TE} (hc : X.calm = true) (hN : X.N.Nodup) (hy : X.N[i]? = some y) (hyl : X.env.scope.names.lookup y = some .local)
    (hsw : swapsWith (.DictComp kx vx [⟨tg, iter, ifs, 0⟩] scope pos) (some (.Name y py)) spos.line X.env = pure true) (hi : PI X tg iter wi) (ok : BlkOk X.N X.env.scope scope own)
    (hg : ∀ (s : Shared) (H : Hp) (C : Addr) (cl : List (Str × Addr)) (fp : List Addr), PG (X.blk s H scope (compEnvC scope cl C X.env) fp) tg g)
    (ht : ∀ (s : Shared) (H : Hp) (C : Addr) (cl : List (Str × Addr)) (fp : List Addr), PTs (X.blk s H scope (compEnvC scope cl C X.env) fp) ifs tt)
    (hk : ∀ (s : Shared) (H : Hp) (C : Addr) (cl : List (Str × Addr)) (fp : List Addr), PE (X.blk s H scope (compEnvC scope cl C X.env) fp) kx tk)
    (he : ∀ (s : Shared) (H : Hp) (C : Addr) (cl : List (Str × Addr)) (fp : List Addr), PE (X.blk s H scope (compEnvC scope cl C X.env) fp) vx tv)
    (hs : ∀ x, foldedSetIterable iter X.env x = pure x := by intro _; rfl) :
    PS X (.Assign [.Name y py] (.DictComp kx vx [⟨tg, iter, ifs, 0⟩] scope pos) spos) (tAsg (tDc wi g tt tk tv (own.map (·.2))) (gName i)) := by
  refine ⟨fun pz s σ H Z I h => ?_⟩
  rw [exec_Assign_Name_used _ _ _ _ hsw]
  refine wpAny_bind (wpAny_standAt (wpAny_bind ?_))
  show wpAny _ X.A (do let _ ← comprehension (.DictComp kx vx [⟨tg, iter, ifs, 0⟩] scope pos) scope X.env (firstIterPos [⟨tg, iter, ifs, 0⟩] pos) newDict false (eval iter X.env) (some (assign (.Name y py) X.env))) _ _ s
  have h : tDc wi g tt tk tv (own.map (·.2)) σ H (fun x H1 => gName i x σ H1 Z.nx) := h
  exact wpAny_bind (thn (dc_core (Qf := fun _ t => SP X pz Z .next t) hc hN I hi ok hg ht hk he hs h fun L C t nm H' I' q hn f => fill_put I' hN hy hyl q hn f) fun _ t hq => wpAny_pure (wpAny_pure hq))
theorem pds_setCompT (own : List (Str × Nat)) {i : Nat} {y : Str} {py spos : Pos} (hc : X.calm = true) (hN : X.N.Nodup) (hy : X.N[i]? = some y) (hyl : X.env.scope.names.lookup y = some .local)
    (hsw : swapsWith (.DictComp kx vx [⟨tg, iter, ifs, 0⟩] scope pos) (some (.Name y py)) spos.line X.env = pure true) (hi : PDI X tg iter fi) (ok : BlkOk X.N X.env.scope scope own)
    (hg : ∀ (s : Shared) (H : Hp) (C : Addr) (cl : List (Str × Addr)) (fp : List Addr), PDG (X.blk s H scope (compEnvC scope cl C X.env) fp) tg ts g) (ht : ∀ (s : Shared) (H : Hp) (C : Addr) (cl : List (Str × Addr)) (fp : List Addr), PDTs (X.blk s H scope (compEnvC scope cl C X.env) fp) ifs tt)
    (hk : ∀ (s : Shared) (H : Hp) (C : Addr) (cl : List (Str × Addr)) (fp : List Addr), PD (X.blk s H scope (compEnvC scope cl C X.env) fp) kx tk)
    (he : ∀ (s : Shared) (H : Hp) (C : Addr) (cl : List (Str × Addr)) (fp : List Addr), PD (X.blk s H scope (compEnvC scope cl C X.env) fp) vx tv) (hw : own.map (·.2) = ow := by rfl) (ho : ∀ k ∈ ts, k ∈ ow := by decide) (hs : ∀ x, foldedSetIterable iter X.env x = pure x := by intro _; rfl) :
    PDS X W (.Assign [.Name y py] (.DictComp kx vx [⟨tg, iter, ifs, 0⟩] scope pos) spos) (sAsg i (dCompT fi (tStep g tt ow tk tv) m)) := by
  subst hw
  refine PS.weak (ps_setDc (g := rdG (ctx X) ts g) (tt := rdT (ctx X) tt) (tk := rdE (ctx X) tk) (tv := rdE (ctx X) tv) hc hN hy hyl hsw hi ok hg ht hk he hs) fun E σ H ⟨F, ι, Γ, M, fl, Γ', M', w, e, k⟩ => ?_
  obtain ⟨⟨s, M1⟩, e1, e⟩ := Option.bind_eq_some_iff.mp e
  cases e
  exact rd_compT (c := ctx X) ho ⟨F, ι, Γ, M, s, M1, w, e1, fun v ι1 H1 x1 r1 i1 => k ι1 _ H1 x1 ((w.next x1 r1).set i1 i)⟩
theorem sw_trueS {gs : List Comprehension} {py : Pos} {y : Str} {l : Nat} {env : Env} (hk : env.scope.kind = .function) (hy : env.scope.names.lookup y = some .local) (hl : (py.line == pos.line) = true)
    (ha : (scope.names.any fun (n, k) => n == y && (k == .local || k == .cell)) = false) : swapsWith (.SetComp elt gs scope pos) (some (.Name y py)) l env = pure true := by
  have ky : env.kindOf y = some .local := hy
  have hb : env.blockKind = .function := by unfold Env.blockKind; rw [hk]; rfl
  unfold swapsWith
  simp only [hb, ky, ha, Expr.pos, hl]
  rfl
theorem sw_trueT {gs : List Comprehension} {py : Pos} {y : Str} {l : Nat} {env : Env} (hk : env.scope.kind = .function) (hy : env.scope.names.lookup y = some .local) (hl : (py.line == pos.line) = true)
    (ha : (scope.names.any fun (n, k) => n == y && (k == .local || k == .cell)) = false) : swapsWith (.DictComp kx vx gs scope pos) (some (.Name y py)) l env = pure true := by
  have ky : env.kindOf y = some .local := hy
  have hb : env.blockKind = .function := by unfold Env.blockKind; rw [hk]; rfl
  unfold swapsWith
  simp only [hb, ky, ha, Expr.pos, hl]
  rfl
end
end EL
namespace K02
open PySem PySem.Spec PyProof.Rows L2 EL
def top (i : Nat) : Stmt := PySem.Challenge.pw_drawnalike_k02_whole_flows_and_bars.main.body.getD i (.Pass ⟨0, 0, 0, 0⟩)
def clsAt (i j : Nat) : Stmt := match top i with
  | .ClassDef _ _ _ b _ _ _ _ _ _ _ => b.getD j (.Pass ⟨0, 0, 0, 0⟩)
  | _ => .Pass ⟨0, 0, 0, 0⟩
abbrev st_is_integer : Stmt := top 1
abbrev st_is_tuple : Stmt := top 2
abbrev st_sums_by : Stmt := top 4
abbrev st_is_row : Stmt := top 5
abbrev st_are_even : Stmt := top 6
abbrev st_is_tie : Stmt := top 7
abbrev st_Flow___init__ : Stmt := clsAt 8 0
abbrev st_Flow_way : Stmt := clsAt 8 1
abbrev st_Flow_send : Stmt := clsAt 8 2
abbrev st_tie_within : Stmt := top 9
abbrev st_shows_bar : Stmt := top 10
abbrev st_shows_tie_within : Stmt := top 11
abbrev st__law_start : Stmt := top 13
abbrev st__law_draw : Stmt := top 14
abbrev st__law_shuffled : Stmt := top 15
abbrev st__law_some_tie : Stmt := top 16
abbrev st__law_subsets_of : Stmt := top 17
abbrev st__law_is_int : Stmt := top 18
abbrev st__law_led : Stmt := top 19
abbrev st__law_is_few : Stmt := top 20
abbrev st__law_units : Stmt := top 21
abbrev st__law_is_tie : Stmt := top 22
abbrev st__law_one_of : Stmt := top 23
abbrev st__law_bent : Stmt := top 24
abbrev st__law_says : Stmt := top 25
abbrev st_law : Stmt := top 26
abbrev FnP (K : PySem.W.Frag) (x : Str) (st : Stmt) (f : Addr) (fd : FuncData) : Prop := FunD K x x (defArgs st) (defBody st) (defScope st) [] [] f fd
theorem S_is_integer : FnScope ["datum"] ["datum"] (defScope st_is_integer) := ⟨rfl, rfl, rfl, by decide +kernel, rfl, by decide +kernel, by decide +kernel⟩
theorem S_is_tuple : FnScope ["datum", "many"] ["datum", "many"] (defScope st_is_tuple) := ⟨rfl, rfl, rfl, by decide +kernel, rfl, by decide +kernel, by decide +kernel⟩
theorem S_sums_by : FnScope ["table", "place", "many", "found", "row"] ["table", "place", "many"] (defScope st_sums_by) := ⟨rfl, rfl, rfl, by decide +kernel, rfl, by decide +kernel, by decide +kernel⟩
theorem S_is_row : FnScope ["datum", "many", "others", "one"] ["datum", "many", "others"] (defScope st_is_row) := ⟨rfl, rfl, rfl, by decide +kernel, rfl, by decide +kernel, by decide +kernel⟩
theorem S_are_even : FnScope ["sums", "one"] ["sums"] (defScope st_are_even) := ⟨rfl, rfl, rfl, by decide +kernel, rfl, by decide +kernel, by decide +kernel⟩
theorem S_is_tie : FnScope ["datum", "many", "others", "row", "one", "other"] ["datum", "many", "others"] (defScope st_is_tie) := ⟨rfl, rfl, rfl, by decide +kernel, rfl, by decide +kernel, by decide +kernel⟩
theorem S_Flow___init__ : FnScope ["self", "many", "others", "pairs", "pair"] ["self", "many", "others", "pairs"] (defScope st_Flow___init__) := ⟨rfl, rfl, rfl, by decide +kernel, rfl, by decide +kernel, by decide +kernel⟩
theorem S_Flow_way : FnScope ["self", "back", "waiting", "place", "other", "one", "pair"] ["self"] (defScope st_Flow_way) := ⟨rfl, rfl, rfl, by decide +kernel, rfl, by decide +kernel, by decide +kernel⟩
theorem S_Flow_send : FnScope ["self", "way", "at"] ["self", "way"] (defScope st_Flow_send) := ⟨rfl, rfl, rfl, by decide +kernel, rfl, by decide +kernel, by decide +kernel⟩
theorem S_tie_within : FnScope ["many", "others", "pairs", "flow", "way", "reached", "pair"] ["many", "others", "pairs"] (defScope st_tie_within) := ⟨rfl, rfl, rfl, by decide +kernel, rfl, by decide +kernel, by decide +kernel⟩
theorem S_shows_bar : FnScope ["many", "others", "pairs", "datum", "right", "one", "other"] ["many", "others", "pairs", "datum"] (defScope st_shows_bar) := ⟨rfl, rfl, rfl, by decide +kernel, rfl, by decide +kernel, by decide +kernel⟩
theorem S_shows_tie_within : FnScope ["many", "others", "pairs", "datum", "row"] ["many", "others", "pairs", "datum"] (defScope st_shows_tie_within) := ⟨rfl, rfl, rfl, by decide +kernel, rfl, by decide +kernel, by decide +kernel⟩
theorem S__law_start : FnScope ["script"] ["script"] (defScope st__law_start) := ⟨rfl, rfl, rfl, by decide +kernel, rfl, by decide +kernel, by decide +kernel⟩
theorem S__law_draw : FnScope ["state", "most", "found", "cell", "mixed"] ["state", "most"] (defScope st__law_draw) := ⟨rfl, rfl, rfl, by decide +kernel, rfl, by decide +kernel, by decide +kernel⟩
theorem S__law_shuffled : FnScope ["state", "items", "found", "item"] ["state", "items"] (defScope st__law_shuffled) := ⟨rfl, rfl, rfl, by decide +kernel, rfl, by decide +kernel, by decide +kernel⟩
theorem S__law_some_tie : FnScope ["state", "many", "others", "table", "turn", "left", "right", "k", "pair"] ["state", "many", "others"] (defScope st__law_some_tie) := ⟨rfl, rfl, rfl, by decide +kernel, rfl, by decide +kernel, by decide +kernel⟩
theorem S__law_subsets_of : FnScope ["many", "found", "k", "some"] ["many"] (defScope st__law_subsets_of) := ⟨rfl, rfl, rfl, by decide +kernel, rfl, by decide +kernel, by decide +kernel⟩
theorem S__law_is_int : FnScope ["x"] ["x"] (defScope st__law_is_int) := ⟨rfl, rfl, rfl, by decide +kernel, rfl, by decide +kernel, by decide +kernel⟩
theorem S__law_led : FnScope ["pairs", "places", "found", "i", "j"] ["pairs", "places"] (defScope st__law_led) := ⟨rfl, rfl, rfl, by decide +kernel, rfl, by decide +kernel, by decide +kernel⟩
theorem S__law_is_few : FnScope ["many", "others", "pairs", "datum", "k"] ["many", "others", "pairs", "datum"] (defScope st__law_is_few) := ⟨rfl, rfl, rfl, by decide +kernel, rfl, by decide +kernel, by decide +kernel⟩
theorem S__law_units : FnScope ["table", "place", "many", "found", "k", "row"] ["table", "place", "many"] (defScope st__law_units) := ⟨rfl, rfl, rfl, by decide +kernel, rfl, by decide +kernel, by decide +kernel⟩
theorem S__law_is_tie : FnScope ["datum", "many", "others", "row", "k", "sums", "x"] ["datum", "many", "others"] (defScope st__law_is_tie) := ⟨rfl, rfl, rfl, by decide +kernel, rfl, by decide +kernel, by decide +kernel⟩
theorem S__law_one_of : FnScope ["state", "items"] ["state", "items"] (defScope st__law_one_of) := ⟨rfl, rfl, rfl, by decide +kernel, rfl, by decide +kernel, by decide +kernel⟩
theorem S__law_bent : FnScope ["state", "datum", "turn", "at", "other"] ["state", "datum", "turn"] (defScope st__law_bent) := ⟨rfl, rfl, rfl, by decide +kernel, rfl, by decide +kernel, by decide +kernel⟩
theorem S__law_says : FnScope ["answer", "due"] ["answer", "due"] (defScope st__law_says) := ⟨rfl, rfl, rfl, by decide +kernel, rfl, by decide +kernel, by decide +kernel⟩
theorem S_law : FnScope ["script", "state", "many", "others", "pairs", "dense", "i", "j", "tie", "bars", "told", "data", "turn", "datum", "due", "row", "some", "k"] ["script"] (defScope st_law) := ⟨rfl, rfl, rfl, by decide +kernel, rfl, by decide +kernel, by decide +kernel⟩
structure Gs (K : PySem.W.Frag) (mg : Str → Option Value) : Prop where
  f_is_integer : ∃ f fd, FnP K "is_integer" st_is_integer f fd ∧ mg "is_integer" = some (.ref f)
  f_is_tuple : ∃ f fd, FnP K "is_tuple" st_is_tuple f fd ∧ mg "is_tuple" = some (.ref f)
  f_sums_by : ∃ f fd, FnP K "sums_by" st_sums_by f fd ∧ mg "sums_by" = some (.ref f)
  f_is_row : ∃ f fd, FnP K "is_row" st_is_row f fd ∧ mg "is_row" = some (.ref f)
  f_are_even : ∃ f fd, FnP K "are_even" st_are_even f fd ∧ mg "are_even" = some (.ref f)
  f_is_tie : ∃ f fd, FnP K "is_tie" st_is_tie f fd ∧ mg "is_tie" = some (.ref f)
  f_Flow___init__ : ∃ A f fd, mg "Flow" = some (.ref A) ∧ Mk K A f ∧ FunD K "__init__" "Flow.__init__" (defArgs st_Flow___init__) (defBody st_Flow___init__) (defScope st_Flow___init__) [] [] f fd
  f_Flow_way : ∃ A f fd, mg "Flow" = some (.ref A) ∧ Cls K A ∧ Meth K A "way" f ∧ FunD K "way" "Flow.way" (defArgs st_Flow_way) (defBody st_Flow_way) (defScope st_Flow_way) [] [] f fd
  f_Flow_send : ∃ A f fd, mg "Flow" = some (.ref A) ∧ Cls K A ∧ Meth K A "send" f ∧ FunD K "send" "Flow.send" (defArgs st_Flow_send) (defBody st_Flow_send) (defScope st_Flow_send) [] [] f fd
  f_tie_within : ∃ f fd, FnP K "tie_within" st_tie_within f fd ∧ mg "tie_within" = some (.ref f)
  f_shows_bar : ∃ f fd, FnP K "shows_bar" st_shows_bar f fd ∧ mg "shows_bar" = some (.ref f)
  f_shows_tie_within : ∃ f fd, FnP K "shows_tie_within" st_shows_tie_within f fd ∧ mg "shows_tie_within" = some (.ref f)
  f__law_start : ∃ f fd, FnP K "_law_start" st__law_start f fd ∧ mg "_law_start" = some (.ref f)
  f__law_draw : ∃ f fd, FnP K "_law_draw" st__law_draw f fd ∧ mg "_law_draw" = some (.ref f)
  f__law_shuffled : ∃ f fd, FnP K "_law_shuffled" st__law_shuffled f fd ∧ mg "_law_shuffled" = some (.ref f)
  f__law_some_tie : ∃ f fd, FnP K "_law_some_tie" st__law_some_tie f fd ∧ mg "_law_some_tie" = some (.ref f)
  f__law_subsets_of : ∃ f fd, FnP K "_law_subsets_of" st__law_subsets_of f fd ∧ mg "_law_subsets_of" = some (.ref f)
  f__law_is_int : ∃ f fd, FnP K "_law_is_int" st__law_is_int f fd ∧ mg "_law_is_int" = some (.ref f)
  f__law_led : ∃ f fd, FnP K "_law_led" st__law_led f fd ∧ mg "_law_led" = some (.ref f)
  f__law_is_few : ∃ f fd, FnP K "_law_is_few" st__law_is_few f fd ∧ mg "_law_is_few" = some (.ref f)
  f__law_units : ∃ f fd, FnP K "_law_units" st__law_units f fd ∧ mg "_law_units" = some (.ref f)
  f__law_is_tie : ∃ f fd, FnP K "_law_is_tie" st__law_is_tie f fd ∧ mg "_law_is_tie" = some (.ref f)
  f__law_one_of : ∃ f fd, FnP K "_law_one_of" st__law_one_of f fd ∧ mg "_law_one_of" = some (.ref f)
  f__law_bent : ∃ f fd, FnP K "_law_bent" st__law_bent f fd ∧ mg "_law_bent" = some (.ref f)
  f__law_says : ∃ f fd, FnP K "_law_says" st__law_says f fd ∧ mg "_law_says" = some (.ref f)
  f_law : ∃ f fd, FnP K "law" st_law f fd ∧ mg "law" = some (.ref f)
  n_abs : mg "abs" = none
  n_all : mg "all" = none
  n_any : mg "any" = none
  n_bool : mg "bool" = none
  n_int : mg "int" = none
  n_isinstance : mg "isinstance" = none
  n_len : mg "len" = none
  n_list : mg "list" = none
  n_range : mg "range" = none
  n_set : mg "set" = none
  n_sorted : mg "sorted" = none
  n_str : mg "str" = none
  n_sum : mg "sum" = none
  n_tuple : mg "tuple" = none
  n_zip : mg "zip" = none
  a_Flow_many : FldF K mg "Flow" "many"
  a_Flow_others : FldF K mg "Flow" "others"
  a_Flow_pairs : FldF K mg "Flow" "pairs"
  a_Flow_left : FldF K mg "Flow" "left"
  a_Flow_right : FldF K mg "Flow" "right"
  a_Flow_table : FldF K mg "Flow" "table"
def g_is_integer : FnT := dFun 1
  (sRet (dAnd (dUn (oIsi "int") (dVar 0)) (dUn oNot (dUn (oIsi "bool") (dVar 0))))) false false
def g_is_tuple : FnT := dFun 2
  (sRet (dAnd (dUn (oIsi "tuple") (dVar 0)) (dBin oEq (dLen (dVar 0)) (dVar 1)))) false false
def g_sums_by : FnT := dFun 5
  (sSeq (sAsg 3 (dBin oMul (dLst (dCons (dC (.int 0)) dNil)) (dVar 2) true))
  (sSeq (sFor (iSeq (dVar 0)) (gNm 4) (sAugSub oIAdd (dVar 3) (dIx (dVar 4) (dVar 1)) (dIx (dVar 4) (dC (.int 2)))))
  (sRet (dVar 3)))) false false
def g_is_row : FnT := dFun 4
  (sSeq (sIf (tOr_ (tNot_ (tTru (dCall g_is_tuple (dCons (dVar 0) (dCons (dC (.int 3)) dNil))))) (tNot_ (tTru (dCB bAll (dCons (dComp (iSeq (dVar 0)) (cStep (gNm 3) tYes_ [3] (dCall g_is_integer (dCons (dVar 3) dNil)))) dNil))))) (sRet (dC (.bool false))) sNil)
  (sRet (dAnd (dChain oLe oLt (dC (.int 0)) (dIx (dVar 0) (dC (.int 0))) (dVar 1)) (dAnd (dChain oLe oLt (dC (.int 0)) (dIx (dVar 0) (dC (.int 1))) (dVar 2)) (dBin oGt (dIx (dVar 0) (dC (.int 2))) (dC (.int 0))))))) false false
def g_are_even : FnT := dFun 2
  (sRet (dAnd (dBin oGt (dIx (dVar 0) (dC (.int 0))) (dC (.int 0))) (dCB bAll (dCons (dComp (iSeq (dVar 0)) (cStep (gNm 1) tYes_ [1] (dBin oEq (dVar 1) (dIx (dVar 0) (dC (.int 0)))))) dNil)))) false false
def g_is_tie : FnT := dFun 6
  (sSeq (sIf (tOr_ (tNot_ (tTru (dUn (oIsi "tuple") (dVar 0)))) (tOr_ (tVal (dBin oEq (dVar 0) (dTup dNil))) (tNot_ (tTru (dCB bAll (dCons (dComp (iSeq (dVar 0)) (cStep (gNm 3) tYes_ [3] (dCall g_is_row (dCons (dVar 3) (dCons (dVar 1) (dCons (dVar 2) dNil)))))) dNil)))))) (sRet (dC (.bool false))) sNil)
  (sSeq (sIf (tNot_ (tTru (dCB bAll (dCons (dComp (iZip (dCons (dVar 0) (dCons (dSl (dVar 0) (oS (dC (.int 1))) oN) dNil))) (cStep (gTp [(gNm 4), (gNm 5)]) tYes_ [4, 5] (dBin oLt (dSl (dVar 4) oN (oS (dC (.int 2)))) (dSl (dVar 5) oN (oS (dC (.int 2))))))) dNil)))) (sRet (dC (.bool false))) sNil)
  (sRet (dAnd (dCall g_are_even (dCons (dCall g_sums_by (dCons (dVar 0) (dCons (dC (.int 0)) (dCons (dVar 1) dNil)))) dNil)) (dCall g_are_even (dCons (dCall g_sums_by (dCons (dVar 0) (dCons (dC (.int 1)) (dCons (dVar 2) dNil)))) dNil)))))) false false
def g_Flow___init__ : FnT := dFun 5
  (sSeq (sFldS "Flow" "many" (dVar 1) (dVar 0))
  (sSeq (sFldS "Flow" "others" (dVar 2) (dVar 0))
  (sSeq (sFldS "Flow" "pairs" (dVar 3) (dVar 0))
  (sSeq (sFldS "Flow" "left" (dBin oMul (dLst (dCons (dVar 2) dNil)) (dVar 1) true) (dVar 0))
  (sSeq (sFldS "Flow" "right" (dBin oMul (dLst (dCons (dVar 1) dNil)) (dVar 2) true) (dVar 0))
  (sFldS "Flow" "table" (dCompN (iSeq (dVar 3)) (nStep (gNm 4) tYes_ [4] (dVar 4) (dC (.int 0)))) (dVar 0))))))) false true
def g_Flow_way : FnT := dFun 7
  (sSeq (sAsg 1 (dCompT (iRng (dCons (dFld "Flow" "many" (dVar 0)) dNil)) (tStep (gNm 3) (tVal (dBin oGt (dIx (dFld "Flow" "left" (dVar 0)) (dVar 3)) (dC (.int 0)))) [3] (dVar 3) (dTup dNil)) true))
  (sSeq (sAsg 2 (dCB bSorted (dCons (dVar 1) dNil) true))
  (sSeq (sWhile 40 (tTru (dVar 2)) (sSeq (sAsg 3 (dMethW "list" cPop0 (dVar 2) (dCons (dC (.int 0)) dNil)))
  (sFor (iSeq (dComp (iSeq (dFld "Flow" "pairs" (dVar 0))) (cStep (gNm 6) (tVal (dBin oEq (dIx (dVar 6) (dC (.int 0))) (dVar 3))) [6] (dIx (dVar 6) (dC (.int 1)))))) (gNm 4) (sSeq (sIf (tVal (dBin oGt (dIx (dFld "Flow" "right" (dVar 0)) (dVar 4)) (dC (.int 0)))) (sRet (dTup (dCons (dBin oAdd (dIx (dVar 1) (dVar 3)) (dTup (dCons (dVar 3) (dCons (dVar 4) dNil)))) (dCons (dCB bSorted (dCons (dVar 1) dNil)) dNil)))) sNil)
  (sFor (iRng (dCons (dFld "Flow" "many" (dVar 0)) dNil)) (gNm 5) (sIf (tAnd_ (tVal (dBin oGt (dGet (dFld "Flow" "table" (dVar 0)) (dCons (dTup (dCons (dVar 5) (dCons (dVar 4) dNil))) (dCons (dC (.int 0)) dNil))) (dC (.int 0)))) (tVal (dBin oNotIn (dVar 5) (dVar 1)))) (sSeq (sSub (dBin oAdd (dIx (dVar 1) (dVar 3)) (dTup (dCons (dVar 3) (dCons (dVar 4) dNil)))) (dVar 1) (dVar 5))
  (sExpr (dMethW "list" cAppend (dVar 2) (dCons (dVar 5) dNil)))) sNil))))))
  (sRet (dTup (dCons (dC .none) (dCons (dCB bSorted (dCons (dVar 1) dNil)) dNil))))))) false true
def g_Flow_send : FnT := dFun 3
  (sSeq (sFor (iRngC (dCons (dC (.int 0)) (dCons (dLen (dVar 1)) (dCons (dC (.int 2)) dNil)))) (gNm 2) (sSeq (sAugSub oIAdd (dFld "Flow" "table" (dVar 0)) (dTup (dCons (dIx (dVar 1) (dVar 2)) (dCons (dIx (dVar 1) (dBin oAdd (dVar 2) (dC (.int 1)))) dNil))) (dC (.int 1)))
  (sIf (tVal (dBin oLt (dBin oAdd (dVar 2) (dC (.int 2))) (dLen (dVar 1)))) (sAugSub oSub (dFld "Flow" "table" (dVar 0)) (dTup (dCons (dIx (dVar 1) (dBin oAdd (dVar 2) (dC (.int 2)))) (dCons (dIx (dVar 1) (dBin oAdd (dVar 2) (dC (.int 1)))) dNil))) (dC (.int 1))) sNil)))
  (sSeq (sAugSub oSub (dFld "Flow" "left" (dVar 0)) (dIx (dVar 1) (dC (.int 0))) (dC (.int 1)))
  (sAugSub oSub (dFld "Flow" "right" (dVar 0)) (dIx (dVar 1) (dUn oNeg (dC (.int 1)))) (dC (.int 1))))) false true
def g_tie_within : FnT := dFun 7
  (sSeq (sAsg 3 (dMake "Flow" g_Flow___init__ (dCons (dVar 0) (dCons (dVar 1) (dCons (dUn oSortSet (dVar 2)) dNil)))))
  (sSeq (sTup (dMethO "Flow" "way" g_Flow_way (dVar 3) dNil) (gTp [(gNm 4), (gNm 5)]))
  (sSeq (sWhile 40 (tVal (dBin oIsNot (dVar 4) (dC .none))) (sSeq (sExpr (dMethO "Flow" "send" g_Flow_send (dVar 3) (dCons (dVar 4) dNil)))
  (sTup (dMethO "Flow" "way" g_Flow_way (dVar 3) dNil) (gTp [(gNm 4), (gNm 5)]))))
  (sSeq (sIf (tTru (dVar 5)) (sRet (dTup (dCons (dC (.str "bar")) (dCons (dCB bTuple (dCons (dVar 5) dNil)) dNil)))) sNil)
  (sRet (dTup (dCons (dC (.str "tie")) (dCons (dCB bTuple (dCons (dComp (iSeq (dFld "Flow" "pairs" (dVar 3))) (cStep (gNm 6) (tVal (dBin oGt (dIx (dFld "Flow" "table" (dVar 3)) (dVar 6)) (dC (.int 0)))) [6] (dBin oAdd (dVar 6) (dTup (dCons (dIx (dFld "Flow" "table" (dVar 3)) (dVar 6)) dNil))))) dNil)) dNil)))))))) false false
def g_shows_bar : FnT := dFun 7
  (sSeq (sIf (tOr_ (tNot_ (tTru (dUn (oIsi "tuple") (dVar 3)))) (tNot_ (tTru (dCB bAll (dCons (dComp (iSeq (dVar 3)) (cStep (gNm 5) tYes_ [5] (dAnd (dCall g_is_integer (dCons (dVar 5) dNil)) (dChain oLe oLt (dC (.int 0)) (dVar 5) (dVar 0))))) dNil))))) (sRet (dC (.bool false))) sNil)
  (sSeq (sIf (tNot_ (tTru (dCB bAll (dCons (dComp (iZip (dCons (dVar 3) (dCons (dSl (dVar 3) (oS (dC (.int 1))) oN) dNil))) (cStep (gTp [(gNm 5), (gNm 6)]) tYes_ [5, 6] (dBin oLt (dVar 5) (dVar 6)))) dNil)))) (sRet (dC (.bool false))) sNil)
  (sSeq (sAsg 4 (dCompS (iSeq (dVar 2)) (sStep (gTp [(gNm 5), (gNm 6)]) (tVal (dBin oIn (dVar 5) (dVar 3))) [5, 6] (dVar 6))))
  (sRet (dBin oGt (dBin oMul (dLen (dVar 3)) (dVar 1)) (dBin oMul (dLenS (dVar 4)) (dVar 0))))))) false false
def g_shows_tie_within : FnT := dFun 5
  (sRet (dAnd (dCall g_is_tie (dCons (dVar 3) (dCons (dVar 0) (dCons (dVar 1) dNil)))) (dCB bAll (dCons (dComp (iSeq (dVar 3)) (cStep (gNm 4) tYes_ [4] (dBin oIn (dSl (dVar 4) oN (oS (dC (.int 2)))) (dVar 2)))) dNil)))) false false
def g__law_draw : FnT := dFun 5
  (sSeq (sSub (dBin oAdd (dIx (dVar 0) (dC (.int 3))) (dC (.int 1))) (dVar 0) (dC (.int 3)))
  (sSeq (sIf (tVal (dBin oGt (dIx (dVar 0) (dC (.int 2))) (dC (.int 0)))) (sSeq (sAsg 2 (dBin oMod (dCB bInt (dCons (dIx (dVar 0) (dC (.int 2))) dNil)) (dVar 1)))
  (sSeq (sSub (dBin oDiv (dIx (dVar 0) (dC (.int 2))) (dVar 1)) (dVar 0) (dC (.int 2)))
  (sRet (dVar 2)))) sNil)
  (sSeq (sAsg 3 (dC (.int 0)))
  (sSeq (sIf (tVal (dBin oGt (dLen (dIx (dVar 0) (dC (.int 0)))) (dC (.int 0)))) (sAsg 3 (dCB bAbs (dCons (dIx (dIx (dVar 0) (dC (.int 0))) (dBin oMod (dCB bInt (dCons (dIx (dVar 0) (dC (.int 1))) dNil)) (dLen (dIx (dVar 0) (dC (.int 0)))))) dNil))) sNil)
  (sSeq (sSub (dBin oAdd (dIx (dVar 0) (dC (.int 1))) (dC (.int 1))) (dVar 0) (dC (.int 1)))
  (sSeq (sIf (tVal (dBin oGe (dVar 3) (dBin oPow (dC (.int 10)) (dC (.int 18))))) (sSeq (sSub (dBin oDiv (dVar 3) (dVar 1)) (dVar 0) (dC (.int 2)))
  (sRet (dBin oMod (dCB bInt (dCons (dVar 3) dNil)) (dVar 1)))) sNil)
  (sSeq (sAsg 4 (dBin oMod (dCB bInt (dCons (dBin oAdd (dBin oMul (dBin oAdd (dVar 3) (dC (.int 1))) (dC (.int 48271))) (dBin oMul (dIx (dVar 0) (dC (.int 3))) (dC (.int 69621)))) dNil)) (dC (.int 2147483647))))
  (sSeq (sAsg 4 (dBin oMod (dCB bInt (dCons (dBin oAdd (dBin oAdd (dBin oMul (dVar 4) (dC (.int 16807))) (dBin oDiv (dVar 3) (dC (.int 97)))) (dIx (dVar 0) (dC (.int 3)))) dNil)) (dC (.int 2147483629))))
  (sRet (dBin oMod (dBin oDiv (dVar 4) (dC (.int 11))) (dVar 1))))))))))) false false
def g__law_shuffled : FnT := dFun 4
  (sSeq (sAsg 2 (dLstP dNil))
  (sSeq (sFor (iSeq (dVar 1)) (gNm 3) (sExpr (dMethW "list" cInsert (dVar 2) (dCons (dCall g__law_draw (dCons (dVar 0) (dCons (dBin oAdd (dLen (dVar 2)) (dC (.int 1))) dNil))) (dCons (dVar 3) dNil)))))
  (sRet (dVar 2)))) false true
def g__law_some_tie : FnT := dFun 9
  (sSeq (sAsg 3 (dDictN true))
  (sSeq (sFor (iRng (dCons (dBin oAdd (dC (.int 1)) (dCall g__law_draw (dCons (dVar 0) (dCons (dC (.int 3)) dNil)))) dNil)) (gNm 4) (sSeq (sAsg 5 (dCall g__law_shuffled (dCons (dVar 0) (dCons (dBin oMul (oLstRg1 (dVar 1)) (dVar 2)) dNil)) false))
  (sSeq (sAsg 6 (dBin oMul (oLstRg1 (dVar 2)) (dVar 1)))
  (sFor (iRng (dCons (dLen (dVar 5)) dNil)) (gNm 7) (sSub (dBin oAdd (dGet (dVar 3) (dCons (dTup (dCons (dIx (dVar 5) (dVar 7)) (dCons (dIx (dVar 6) (dVar 7)) dNil))) (dCons (dC (.int 0)) dNil))) (dC (.int 1))) (dVar 3) (dTup (dCons (dIx (dVar 5) (dVar 7)) (dCons (dIx (dVar 6) (dVar 7)) dNil))))))))
  (sRet (dCB bTuple (dCons (dComp (iSeq (dCB bSorted (dCons (dVar 3) dNil))) (cStep (gNm 8) tYes_ [8] (dBin oAdd (dVar 8) (dTup (dCons (dIx (dVar 3) (dVar 8)) dNil))))) dNil))))) false false
def g__law_subsets_of : FnT := dFun 4
  (sSeq (sAsg 1 (dLst (dCons (dTup dNil) dNil)))
  (sSeq (sFor (iRng (dCons (dVar 0) dNil)) (gNm 2) (sAsg 1 (dBin oAdd (dVar 1) (dComp (iSeq (dVar 1)) (cStep (gNm 3) tYes_ [3] (dBin oAdd (dVar 3) (dTup (dCons (dVar 2) dNil))))))))
  (sRet (dVar 1)))) false false
def g__law_is_int : FnT := dFun 1
  (sRet (dAnd (dUn (oIsi "int") (dVar 0)) (dUn oNot (dUn (oIsi "bool") (dVar 0))))) false false
def g__law_led : FnT := dFun 5
  (sSeq (sAsg 2 (dLstP dNil))
  (sSeq (sFor (iSeq (dVar 0)) (gTp [(gNm 3), (gNm 4)]) (sIf (tAnd_ (tVal (dBin oIn (dVar 3) (dVar 1))) (tVal (dBin oNotIn (dVar 4) (dVar 2)))) (sExpr (dMethW "list" cAppend (dVar 2) (dCons (dVar 4) dNil))) sNil))
  (sRet (dVar 2)))) false false
def g__law_is_few : FnT := dFun 5
  (sSeq (sIf (tOr_ (tNot_ (tTru (dUn (oIsi "tuple") (dVar 3)))) (tNot_ (tTru (dCB bAll (dCons (dComp (iSeq (dVar 3)) (cStep (gNm 4) tYes_ [4] (dAnd (dCall g__law_is_int (dCons (dVar 4) dNil)) (dAnd (dBin oLe (dC (.int 0)) (dVar 4)) (dBin oLt (dVar 4) (dVar 0)))))) dNil))))) (sRet (dC (.bool false))) sNil)
  (sSeq (sIf (tTru (dCB bAny (dCons (dComp (iRng (dCons (dBin oSub (dLen (dVar 3)) (dC (.int 1))) dNil)) (cStep (gNm 4) tYes_ [4] (dBin oGe (dIx (dVar 3) (dVar 4)) (dIx (dVar 3) (dBin oAdd (dVar 4) (dC (.int 1))))))) dNil))) (sRet (dC (.bool false))) sNil)
  (sRet (dBin oGt (dBin oMul (dLen (dVar 3)) (dVar 1)) (dBin oMul (dLen (dCall g__law_led (dCons (dVar 2) (dCons (dVar 3) dNil)))) (dVar 0)))))) false false
def g__law_units : FnT := dFun 6
  (sSeq (sAsg 3 (dLstP dNil))
  (sSeq (sFor (iRng (dCons (dVar 2) dNil)) (gNm 4) (sExpr (dMethW "list" cAppend (dVar 3) (dCons (dCB bSum (dCons (dComp (iSeq (dVar 0)) (cStep (gNm 5) (tVal (dBin oEq (dIx (dVar 5) (dVar 1)) (dVar 4))) [5] (dIx (dVar 5) (dC (.int 2))))) dNil)) dNil))))
  (sRet (dVar 3)))) false false
def g__law_is_tie : FnT := dFun 7
  (sSeq (sIf (tOr_ (tNot_ (tTru (dUn (oIsi "tuple") (dVar 0)))) (tVal (dBin oEq (dVar 0) (dTup dNil)))) (sRet (dC (.bool false))) sNil)
  (sSeq (sFor (iSeq (dVar 0)) (gNm 3) (sSeq (sIf (tOr_ (tNot_ (tTru (dUn (oIsi "tuple") (dVar 3)))) (tOr_ (tVal (dBin oNe (dLen (dVar 3)) (dC (.int 3)))) (tNot_ (tTru (dCB bAll (dCons (dComp (iSeq (dVar 3)) (cStep (gNm 6) tYes_ [6] (dCall g__law_is_int (dCons (dVar 6) dNil)))) dNil)))))) (sRet (dC (.bool false))) sNil)
  (sIf (tOr_ (tVal (dBin oLt (dIx (dVar 3) (dC (.int 0))) (dC (.int 0)))) (tOr_ (tVal (dBin oGe (dIx (dVar 3) (dC (.int 0))) (dVar 1))) (tOr_ (tVal (dBin oLt (dIx (dVar 3) (dC (.int 1))) (dC (.int 0)))) (tOr_ (tVal (dBin oGe (dIx (dVar 3) (dC (.int 1))) (dVar 2))) (tVal (dBin oLt (dIx (dVar 3) (dC (.int 2))) (dC (.int 1)))))))) (sRet (dC (.bool false))) sNil)))
  (sSeq (sFor (iRng (dCons (dBin oSub (dLen (dVar 0)) (dC (.int 1))) dNil)) (gNm 4) (sIf (tVal (dBin oGe (dSl (dIx (dVar 0) (dVar 4)) oN (oS (dC (.int 2)))) (dSl (dIx (dVar 0) (dBin oAdd (dVar 4) (dC (.int 1)))) oN (oS (dC (.int 2)))))) (sRet (dC (.bool false))) sNil))
  (sSeq (sFor (iSeq (dLst (dCons (dCall g__law_units (dCons (dVar 0) (dCons (dC (.int 0)) (dCons (dVar 1) dNil)))) (dCons (dCall g__law_units (dCons (dVar 0) (dCons (dC (.int 1)) (dCons (dVar 2) dNil)))) dNil)))) (gNm 5) (sIf (tTru (dCB bAny (dCons (dComp (iSeq (dVar 5)) (cStep (gNm 6) tYes_ [6] (dOr (dBin oNe (dVar 6) (dIx (dVar 5) (dC (.int 0)))) (dBin oLt (dVar 6) (dC (.int 1)))))) dNil))) (sRet (dC (.bool false))) sNil))
  (sRet (dC (.bool true))))))) false false
def g__law_one_of : FnT := dFun 2
  (sRet (dIx (dVar 1) (dCall g__law_draw (dCons (dVar 0) (dCons (dLen (dVar 1)) dNil))))) false false
def h__law_bent (gr : FnT) : FnT := dFun 5
  (sSeq (sIf (tAnd_ (tTru (dUn (oIsi "tuple") (dVar 1))) (tAnd_ (tVal (dBin oGt (dLen (dVar 1)) (dC (.int 0)))) (tAnd_ (tVal (dBin oLt (dVar 2) (dC (.int 30)))) (tVal (dBin oGt (dCall g__law_draw (dCons (dVar 0) (dCons (dC (.int 7)) dNil))) (dC (.int 0))))))) (sSeq (sAsg 3 (dCall g__law_draw (dCons (dVar 0) (dCons (dLen (dVar 1)) dNil))))
  (sRet (dBin oAdd (dBin oAdd (dSl (dVar 1) oN (oS (dVar 3))) (dTup (dCons (dCall gr (dCons (dVar 0) (dCons (dIx (dVar 1) (dVar 3)) (dCons (dBin oAdd (dVar 2) (dC (.int 1))) dNil)))) dNil))) (dSl (dVar 1) (oS (dBin oAdd (dVar 3) (dC (.int 1)))) oN)))) sNil)
  (sSeq (sIf (tTru (dUn (oIsi "tuple") (dVar 1))) (sSeq (sAsg 3 (dCall g__law_draw (dCons (dVar 0) (dCons (dBin oAdd (dLen (dVar 1)) (dC (.int 1))) dNil))))
  (sSeq (sAsg 4 (dLst (dCons (dBin oAdd (dSl (dVar 1) oN (oS (dVar 3))) (dSl (dVar 1) (oS (dBin oAdd (dVar 3) (dC (.int 1)))) oN)) (dCons (dBin oAdd (dBin oAdd (dSl (dVar 1) oN (oS (dVar 3))) (dSl (dVar 1) (oS (dVar 3)) (oS (dBin oAdd (dVar 3) (dC (.int 1)))))) (dSl (dVar 1) (oS (dVar 3)) oN)) (dCons (dBin oAdd (dVar 1) (dTup (dCons (dC (.int 0)) dNil))) (dCons (dTup dNil) dNil))))))
  (sRet (dCall g__law_one_of (dCons (dVar 0) (dCons (dBin oAdd (dVar 4) (dLst (dCons (dBin oAdd (dSl (dVar 1) (oS (dVar 3)) oN) (dSl (dVar 1) oN (oS (dVar 3)))) (dCons (dUn oRev (dVar 1)) (dCons (dC (.str "shown")) dNil))))) dNil)))))) sNil)
  (sSeq (sIf (tTru (dUn (oIsi "str") (dVar 1))) (sRet (dCall g__law_one_of (dCons (dVar 0) (dCons (dLst (dCons (dC (.str "shut")) (dCons (dC (.str "kept")) (dCons (dC (.str "open")) (dCons (dC (.str "")) (dCons (dBin oAdd (dVar 1) (dC (.str "x"))) (dCons (dSl (dVar 1) (oS (dC (.int 1))) oN) (dCons (dC (.int 1)) dNil)))))))) dNil)))) sNil)
  (sRet (dCall g__law_one_of (dCons (dVar 0) (dCons (dLst (dCons (dBin oAdd (dVar 1) (dC (.int 1))) (dCons (dBin oSub (dVar 1) (dC (.int 1))) (dCons (dUn oNeg (dVar 1)) (dCons (dC (.int 0)) (dCons (dC (.str "1")) (dCons (dTup (dCons (dVar 1) dNil)) dNil))))))) dNil))))))) false false
def r__law_bent : Nat → FnT
  | 0 => fun _ _ => none
  | n + 1 => h__law_bent (r__law_bent n)
abbrev g__law_bent : FnT := r__law_bent 31
def g__law_says : FnT := dFun 2
  (sSeq (sIf (tTru (dVar 1)) (sRet (dBin oIs (dVar 0) (dC (.bool true)))) sNil)
  (sRet (dBin oIs (dVar 0) (dC (.bool false))))) false false
def b_law : DS :=
  (sSeq (sAsg 2 (dBin oAdd (dC (.int 1)) (dCall g__law_draw (dCons (dVar 1) (dCons (dC (.int 5)) dNil)))))
  (sSeq (sAsg 3 (dBin oAdd (dC (.int 1)) (dCall g__law_draw (dCons (dVar 1) (dCons (dC (.int 5)) dNil)))))
  (sSeq (sAsg 4 (dLstP dNil))
  (sSeq (sAsg 5 (dBin oAdd (dC (.int 1)) (dCall g__law_draw (dCons (dVar 1) (dCons (dC (.int 4)) dNil)))))
  (sSeq (sFor (iRng (dCons (dVar 2) dNil)) (gNm 6) (sFor (iRng (dCons (dVar 3) dNil)) (gNm 7) (sIf (tVal (dBin oLt (dCall g__law_draw (dCons (dVar 1) (dCons (dC (.int 5)) dNil))) (dVar 5))) (sExpr (dMethW "list" cAppend (dVar 4) (dCons (dTup (dCons (dVar 6) (dCons (dVar 7) dNil))) dNil))) sNil)))
  (sSeq (sIf (tVal (dBin oEq (dCall g__law_draw (dCons (dVar 1) (dCons (dC (.int 3)) dNil))) (dC (.int 0)))) (sSeq (sAsg 8 (dCall g__law_some_tie (dCons (dVar 1) (dCons (dVar 2) (dCons (dVar 3) dNil)))))
  (sAsg 4 (dBin oAdd (dVar 4) (dComp (iSeq (dVar 8)) (cStep (gNm 15) (tVal (dBin oNotIn (dSl (dVar 15) oN (oS (dC (.int 2)))) (dVar 4))) [15] (dSl (dVar 15) oN (oS (dC (.int 2)))))) true))) sNil)
  (sSeq (sAsg 4 (dCB bTuple (dCons (dCall g__law_shuffled (dCons (dVar 1) (dCons (dVar 4) dNil)) false) dNil)))
  (sSeq (sAsg 9 (dComp (iSeq (dCall g__law_subsets_of (dCons (dVar 2) dNil))) (cStep (gNm 16) (tTru (dCall g__law_is_few (dCons (dVar 2) (dCons (dVar 3) (dCons (dVar 4) (dCons (dVar 16) dNil)))))) [16] (dVar 16))))
  (sSeq (sAsg 10 (dCall g_tie_within (dCons (dVar 2) (dCons (dVar 3) (dCons (dVar 4) dNil)))))
  (sSeq (sIf (tOr_ (tNot_ (tTru (dUn (oIsi "tuple") (dVar 10)))) (tOr_ (tVal (dBin oNe (dLen (dVar 10)) (dC (.int 2)))) (tVal (dBin oNe (dIx (dVar 10) (dC (.int 0))) (dIx (dLst (dCons (dC (.str "tie")) (dCons (dC (.str "bar")) dNil))) (dCB bInt (dCons (dBin oNe (dVar 9) (dLst dNil)) dNil))))))) (sRet (dC (.bool false))) sNil)
  (sSeq (sIf (tVal (dBin oEq (dIx (dVar 10) (dC (.int 0))) (dC (.str "tie")))) (sIf (tOr_ (tNot_ (tTru (dCall g__law_is_tie (dCons (dIx (dVar 10) (dC (.int 1))) (dCons (dVar 2) (dCons (dVar 3) dNil)))))) (tNot_ (tTru (dCB bAll (dCons (dComp (iSeq (dIx (dVar 10) (dC (.int 1)))) (cStep (gNm 15) tYes_ [15] (dBin oIn (dSl (dVar 15) oN (oS (dC (.int 2)))) (dVar 4)))) dNil))))) (sRet (dC (.bool false))) sNil) (sIf (tVal (dBin oNotIn (dIx (dVar 10) (dC (.int 1))) (dVar 9))) (sRet (dC (.bool false))) sNil))
  (sSeq (sAsg 11 (dLstP (dCons (dIx (dVar 10) (dC (.int 1))) (dCons (dTup dNil) (dCons (dTup (dCons (dC (.int 0)) dNil)) (dCons (dC (.int 7)) (dCons (dCB bTuple (dCons (dComp (iRng (dCons (dVar 2) dNil)) (cStep (gNm 17) tYes_ [17] (dVar 17))) dNil)) (dCons (dCall g__law_some_tie (dCons (dVar 1) (dCons (dVar 2) (dCons (dVar 3) dNil)))) dNil))))))))
  (sSeq (sFor (iRng (dCons (dC (.int 8)) dNil)) (gNm 12) (sSeq (sExpr (dMethW "list" cAppend (dVar 11) (dCons (dCall g__law_bent (dCons (dVar 1) (dCons (dIx (dVar 10) (dC (.int 1))) (dCons (dC (.int 0)) dNil)))) dNil)))
  (sExpr (dMethW "list" cAppend (dVar 11) (dCons (dCall g__law_one_of (dCons (dVar 1) (dCons (dCall g__law_subsets_of (dCons (dVar 2) dNil)) dNil))) dNil)))))
  (sSeq (sFor (iSeq (dVar 11)) (gNm 13) (sSeq (sIf (tNot_ (tTru (dCall g__law_says (dCons (dCall g_shows_bar (dCons (dVar 2) (dCons (dVar 3) (dCons (dVar 4) (dCons (dVar 13) dNil))))) (dCons (dCall g__law_is_few (dCons (dVar 2) (dCons (dVar 3) (dCons (dVar 4) (dCons (dVar 13) dNil))))) dNil))))) (sRet (dC (.bool false))) sNil)
  (sSeq (sAsg 14 (dAnd (dCall g__law_is_tie (dCons (dVar 13) (dCons (dVar 2) (dCons (dVar 3) dNil)))) (dCB bAll (dCons (dComp (iSeq (dVar 13)) (cStep (gNm 15) tYes_ [15] (dBin oIn (dSl (dVar 15) oN (oS (dC (.int 2)))) (dVar 4)))) dNil))))
  (sIf (tNot_ (tTru (dCall g__law_says (dCons (dCall g_shows_tie_within (dCons (dVar 2) (dCons (dVar 3) (dCons (dVar 4) (dCons (dVar 13) dNil))))) (dCons (dVar 14) dNil))))) (sRet (dC (.bool false))) sNil))))
  (sRet (dC (.bool true)))))))))))))))))
section
variable {P : Program} {w : World} {K : PySem.W.Frag} {mg : Str → Option Value} {base : Heap}
theorem D_is_integer (G : Gs K mg) : Def P w K mg base 1 "is_integer" 1 g_is_integer := by
  obtain ⟨f, fd, F, hm⟩ := G.f_is_integer
  refine ⟨f, fd, _, fn_ok (k := 0) F S_is_integer (xx := false) (ww := false) (hb := fun cdv A outer s H E hr tk pw => ?_), hm, F.kp, F.bindsN fun _ _ _ _ _ _ us hl => match us, hl with | [_], _ => rfl⟩
  exact (pds_one (pds_ret (pd_and (pd_isi "int" kit_int rfl G.n_isinstance rfl G.n_int (by decide +kernel) (pd_var 0)) (pd_one (pd_not (pd_isi "bool" kit_bool rfl G.n_isinstance rfl G.n_bool (by decide +kernel) (pd_var 0)))))))
theorem D_is_tuple (G : Gs K mg) : Def P w K mg base 1 "is_tuple" 2 g_is_tuple := by
  obtain ⟨f, fd, F, hm⟩ := G.f_is_tuple
  refine ⟨f, fd, _, fn_ok (k := 0) F S_is_tuple (xx := false) (ww := false) (hb := fun cdv A outer s H E hr tk pw => ?_), hm, F.kp, F.bindsN fun _ _ _ _ _ _ us hl => match us, hl with | [_, _], _ => rfl⟩
  exact (pds_one (pds_ret (pd_and (pd_isi "tuple" kit_tuple rfl G.n_isinstance rfl G.n_tuple (by decide +kernel) (pd_var 0)) (pd_one (pd_cm (c_eq hr) (pd_len rfl G.n_len (pd_var 0)) (pd_var 1))))))
theorem D_sums_by (G : Gs K mg) : Def P w K mg base 1 "sums_by" 3 g_sums_by := by
  obtain ⟨f, fd, F, hm⟩ := G.f_sums_by
  refine ⟨f, fd, _, fn_ok (k := 0) F S_sums_by (xx := false) (ww := false) (hb := fun cdv A outer s H E hr tk pw => ?_), hm, F.kp, F.bindsN fun _ _ _ _ _ _ us hl => match us, hl with | [_, _, _], _ => rfl⟩
  exact (pds_cons (pds_set 3 (pd_mul (m := true) (pd_lst (pda_cons pd_int pda_nil)) (pd_var 2)) S_sums_by.nd)
  (pds_cons (pds_for pw rfl (pdi_seq (pd_var 0)) ((pdg_name 4 S_sums_by.nd) : PDG _ _ [4] _) (pds_one (pds_augSub hr ip_iadd r2_iadd (pd_var 3) (pd_ix hr (pd_var 4) (pd_var 1)) (pd_ix hr (pd_var 4) pd_int))))
  (pds_one (pds_ret (pd_var 3)))))
theorem D_is_row (G : Gs K mg) : Def P w K mg base 2 "is_row" 3 g_is_row := by
  obtain ⟨f, fd, F, hm⟩ := G.f_is_row
  refine ⟨f, fd, _, fn_ok (k := 1) F S_is_row (xx := false) (ww := false) (hb := fun cdv A outer s H E hr tk pw => ?_), hm, F.kp, F.bindsN fun _ _ _ _ _ _ us hl => match us, hl with | [_, _, _], _ => rfl⟩
  exact (pds_cons (pds_if (pdt_w (pdw_or (pdt_not (pdt_tru (pd_call (D_is_tuple G) hr rfl (pda_cons (pd_var 0) (pda_cons pd_int pda_nil)) dlen2))) (pdw_or1 (pdt_not (pdt_tru (pd_all rfl rfl G.n_all (pda_cons (pd_compq [("one", 3)] rfl S_is_row.nd (pdi_seq (pd_var 0)) (blkOk_by (by kernel_rfl)) (fun _ _ _ _ _ => ((pdg_name 3 S_is_row.nd) : PDG _ _ [3] _)) (fun _ _ _ _ _ => pdts_nil) (fun _ _ _ _ _ => (pd_call (D_is_integer G) hr rfl (pda_cons (pd_var 3) pda_nil) dlen1))) pda_nil))))))) (pds_one (pds_ret pd_bl)) pds_nil)
  (pds_one (pds_ret (pd_and (pd_ch (c_le hr) (c_lt hr) pd_int (pd_ix hr (pd_var 0) pd_int) (pd_var 1)) (pd_and (pd_ch (c_le hr) (c_lt hr) pd_int (pd_ix hr (pd_var 0) pd_int) (pd_var 2)) (pd_one (pd_cm (c_gt hr) (pd_ix hr (pd_var 0) pd_int) pd_int)))))))
theorem D_are_even (G : Gs K mg) : Def P w K mg base 1 "are_even" 1 g_are_even := by
  obtain ⟨f, fd, F, hm⟩ := G.f_are_even
  refine ⟨f, fd, _, fn_ok (k := 0) F S_are_even (xx := false) (ww := false) (hb := fun cdv A outer s H E hr tk pw => ?_), hm, F.kp, F.bindsN fun _ _ _ _ _ _ us hl => match us, hl with | [_], _ => rfl⟩
  exact (pds_one (pds_ret (pd_and (pd_cm (c_gt hr) (pd_ix hr (pd_var 0) pd_int) pd_int) (pd_one (pd_all rfl rfl G.n_all (pda_cons (pd_compq [("one", 1)] rfl S_are_even.nd (pdi_seq (pd_var 0)) (blkOk_by (by kernel_rfl)) (fun _ _ _ _ _ => ((pdg_name 1 S_are_even.nd) : PDG _ _ [1] _)) (fun _ _ _ _ _ => pdts_nil) (fun _ _ _ _ _ => (pd_cm (c_eq hr) (pd_var 1) (pd_ix hr (pd_var 0) pd_int)))) pda_nil))))))
theorem D_is_tie (G : Gs K mg) : Def P w K mg base 3 "is_tie" 3 g_is_tie := by
  obtain ⟨f, fd, F, hm⟩ := G.f_is_tie
  refine ⟨f, fd, _, fn_ok (k := 2) F S_is_tie (xx := false) (ww := false) (hb := fun cdv A outer s H E hr tk pw => ?_), hm, F.kp, F.bindsN fun _ _ _ _ _ _ us hl => match us, hl with | [_, _, _], _ => rfl⟩
  exact (pds_cons (pds_if (pdt_w (pdw_or (pdt_not (pdt_tru (pd_isi "tuple" kit_tuple rfl G.n_isinstance rfl G.n_tuple (by decide +kernel) (pd_var 0)))) (pdw_or (pdt_cm (c_eq hr) (pd_var 0) (pd_tup pda_nil)) (pdw_or1 (pdt_not (pdt_tru (pd_all rfl rfl G.n_all (pda_cons (pd_compq [("row", 3)] rfl S_is_tie.nd (pdi_seq (pd_var 0)) (blkOk_by (by kernel_rfl)) (fun _ _ _ _ _ => ((pdg_name 3 S_is_tie.nd) : PDG _ _ [3] _)) (fun _ _ _ _ _ => pdts_nil) (fun _ _ _ _ _ => (pd_call (D_is_row G) hr rfl (pda_cons (pd_var 3) (pda_cons (pd_var 1) (pda_cons (pd_var 2) pda_nil))) dlen3))) pda_nil)))))))) (pds_one (pds_ret pd_bl)) pds_nil)
  (pds_cons (pds_if (pdt_not (pdt_tru (pd_all rfl rfl G.n_all (pda_cons (pd_compq [("one", 4), ("other", 5)] rfl S_is_tie.nd (pdi_zip rfl G.n_zip (pda_cons (pd_var 0) (pda_cons (pd_sl (pd_var 0) (pdo_some pd_int) pdo_none) pda_nil))) (blkOk_by (by kernel_rfl)) (fun _ _ _ _ _ => ((pdg_tup rfl (pdgs_cons (pdg_name 4 S_is_tie.nd) (pdgs_cons (pdg_name 5 S_is_tie.nd) pdgs_nil))) : PDG _ _ [4, 5] _)) (fun _ _ _ _ _ => pdts_nil) (fun _ _ _ _ _ => (pd_cm (c_lt hr) (pd_sl (pd_var 4) pdo_none (pdo_some pd_int)) (pd_sl (pd_var 5) pdo_none (pdo_some pd_int))))) pda_nil)))) (pds_one (pds_ret pd_bl)) pds_nil)
  (pds_one (pds_ret (pd_and (pd_call (D_are_even G) hr rfl (pda_cons (pd_call (D_sums_by G) hr rfl (pda_cons (pd_var 0) (pda_cons pd_int (pda_cons (pd_var 1) pda_nil))) dlen3) pda_nil) dlen1) (pd_one (pd_call (D_are_even G) hr rfl (pda_cons (pd_call (D_sums_by G) hr rfl (pda_cons (pd_var 0) (pda_cons pd_int (pda_cons (pd_var 2) pda_nil))) dlen3) pda_nil) dlen1)))))))
theorem D_Flow___init__ (G : Gs K mg) : DefK P w K mg base 1 "Flow" 4 g_Flow___init__ := by
  obtain ⟨A, f, fd, hA, mk, F⟩ := G.f_Flow___init__
  refine ⟨A, f, fd, _, hA, mk, fn_ok (k := 0) F S_Flow___init__ (xx := false) (ww := true) (hb := fun cdv A outer s H E hr tk pw => ?_), F.bindsN fun _ _ _ _ _ _ us hl => match us, hl with | [_, _, _, _], _ => rfl⟩
  exact (pds_cons (pds_fld G.a_Flow_many (pd_var 1) (pd_var 0))
  (pds_cons (pds_fld G.a_Flow_others (pd_var 2) (pd_var 0))
  (pds_cons (pds_fld G.a_Flow_pairs (pd_var 3) (pd_var 0))
  (pds_cons (pds_fld G.a_Flow_left (pd_mul (m := true) (pd_lst (pda_cons (pd_var 2) pda_nil)) (pd_var 1)) (pd_var 0))
  (pds_cons (pds_fld G.a_Flow_right (pd_mul (m := true) (pd_lst (pda_cons (pd_var 1) pda_nil)) (pd_var 2)) (pd_var 0))
  (pds_one (pds_fld G.a_Flow_table (pd_compN hr [("pair", 4)] rfl S_Flow___init__.nd (pdi_seq (pd_var 3)) (blkOk_by (by kernel_rfl)) (fun _ _ _ _ _ => ((pdg_name 4 S_Flow___init__.nd) : PDG _ _ [4] _)) (fun _ _ _ _ _ => pdts_nil) (fun _ _ _ _ _ => (pd_var 4)) (fun _ _ _ _ _ => pd_int)) (pd_var 0))))))))
theorem D_Flow_way (G : Gs K mg) : DefM P w K mg base 1 "Flow" "way" 1 g_Flow_way := by
  obtain ⟨A, f, fd, hA, c, me, F⟩ := G.f_Flow_way
  refine ⟨A, f, fd, _, hA, c, me, fn_ok (k := 0) F S_Flow_way (xx := false) (ww := true) (hb := fun cdv A outer s H E hr tk pw => ?_), F.bindsN fun _ _ _ _ _ _ us hl => match us, hl with | [_], _ => rfl⟩
  exact (pds_cons (by first | exact pds_setCompT (m := true) [("place", 3)] (i := 1) rfl S_Flow_way.nd rfl rfl (sw_trueT rfl rfl rfl (by decide +kernel)) (pdi_rng1 rfl G.n_range (pda_cons (pd_fld G.a_Flow_many (pd_var 0)) pda_nil) (hl := dlen1)) (blkOk_by (by kernel_rfl)) (fun _ _ _ _ _ => ((pdg_name 3 S_Flow_way.nd) : PDG _ _ [3] _)) (fun _ _ _ _ _ => (pdts_one (pdt_cm (c_gt hr) (pd_ix hr (pd_fld G.a_Flow_left (pd_var 0)) (pd_var 3)) pd_int))) (fun _ _ _ _ _ => (pd_var 3)) (fun _ _ _ _ _ => (pd_tup pda_nil)) | exact pds_set 1 (pd_compT (m := true) [("place", 3)] rfl S_Flow_way.nd (pdi_rng1 rfl G.n_range (pda_cons (pd_fld G.a_Flow_many (pd_var 0)) pda_nil) (hl := dlen1)) (blkOk_by (by kernel_rfl)) (fun _ _ _ _ _ => ((pdg_name 3 S_Flow_way.nd) : PDG _ _ [3] _)) (fun _ _ _ _ _ => (pdts_one (pdt_cm (c_gt hr) (pd_ix hr (pd_fld G.a_Flow_left (pd_var 0)) (pd_var 3)) pd_int))) (fun _ _ _ _ _ => (pd_var 3)) (fun _ _ _ _ _ => (pd_tup pda_nil))) S_Flow_way.nd)
  (pds_cons (pds_set 2 (pd_sorted (m := true) hr rfl rfl G.n_sorted (pda_cons (pd_var 1) pda_nil)) S_Flow_way.nd)
  (pds_cons (pds_while (n := 40) pw (pdt_tru (pd_var 2)) (pds_cons (pds_set 3 (pd_pop0 (pd_var 2) (pda_cons pd_int pda_nil)) S_Flow_way.nd)
  (pds_one (pds_for pw rfl (pdi_seq (pd_compq [("pair", 6)] rfl S_Flow_way.nd (pdi_seq (pd_fld G.a_Flow_pairs (pd_var 0))) (blkOk_by (by kernel_rfl)) (fun _ _ _ _ _ => ((pdg_name 6 S_Flow_way.nd) : PDG _ _ [6] _)) (fun _ _ _ _ _ => (pdts_one (pdt_cm (c_eq hr) (pd_ix hr (pd_var 6) pd_int) (pd_var 3)))) (fun _ _ _ _ _ => (pd_ix hr (pd_var 6) pd_int)))) ((pdg_name 4 S_Flow_way.nd) : PDG _ _ [4] _) (pds_cons (pds_if (pdt_cm (c_gt hr) (pd_ix hr (pd_fld G.a_Flow_right (pd_var 0)) (pd_var 4)) pd_int) (pds_one (pds_ret (pd_tup (pda_cons (pd_add (pd_ix hr (pd_var 1) (pd_var 3)) (pd_tup (pda_cons (pd_var 3) (pda_cons (pd_var 4) pda_nil)))) (pda_cons (pd_sorted hr rfl rfl G.n_sorted (pda_cons (pd_var 1) pda_nil)) pda_nil))))) pds_nil)
  (pds_one (pds_for pw rfl (pdi_rng1 rfl G.n_range (pda_cons (pd_fld G.a_Flow_many (pd_var 0)) pda_nil) (hl := dlen1)) ((pdg_name 5 S_Flow_way.nd) : PDG _ _ [5] _) (pds_one (pds_if (pdt_w (pdw_and (pdt_cm (c_gt hr) (pd_get2 hr (pd_fld G.a_Flow_table (pd_var 0)) (pda_cons (pd_tup (pda_cons (pd_var 5) (pda_cons (pd_var 4) pda_nil))) (pda_cons pd_int pda_nil))) pd_int) (pdw_and1 (pdt_cm (c_notin hr) (pd_var 5) (pd_var 1))))) (pds_cons (pds_sub hr (pd_add (pd_ix hr (pd_var 1) (pd_var 3)) (pd_tup (pda_cons (pd_var 3) (pda_cons (pd_var 4) pda_nil)))) (pd_var 1) (pd_var 5))
  (pds_one (pds_expr (pd_append (pd_var 2) (pda_cons (pd_var 5) pda_nil))))) pds_nil)))))))))
  (pds_one (pds_ret (pd_tup (pda_cons pd_non (pda_cons (pd_sorted hr rfl rfl G.n_sorted (pda_cons (pd_var 1) pda_nil)) pda_nil))))))))
theorem D_Flow_send (G : Gs K mg) : DefM P w K mg base 1 "Flow" "send" 2 g_Flow_send := by
  obtain ⟨A, f, fd, hA, c, me, F⟩ := G.f_Flow_send
  refine ⟨A, f, fd, _, hA, c, me, fn_ok (k := 0) F S_Flow_send (xx := false) (ww := true) (hb := fun cdv A outer s H E hr tk pw => ?_), F.bindsN fun _ _ _ _ _ _ us hl => match us, hl with | [_, _], _ => rfl⟩
  exact (pds_cons (pds_for pw rfl (pdi_rng3 rfl G.n_range (pda_cons pd_int (pda_cons (pd_len rfl G.n_len (pd_var 1)) (pda_cons pd_int pda_nil))) (hl := dlen3)) ((pdg_name 2 S_Flow_send.nd) : PDG _ _ [2] _) (pds_cons (pds_augSub hr ip_iadd r2_iadd (pd_fld G.a_Flow_table (pd_var 0)) (pd_tup (pda_cons (pd_ix hr (pd_var 1) (pd_var 2)) (pda_cons (pd_ix hr (pd_var 1) (pd_add (pd_var 2) pd_int)) pda_nil))) pd_int)
  (pds_one (pds_if (pdt_cm (c_lt hr) (pd_add (pd_var 2) pd_int) (pd_len rfl G.n_len (pd_var 1))) (pds_one (pds_augSub hr ip_isub r2_isub (pd_fld G.a_Flow_table (pd_var 0)) (pd_tup (pda_cons (pd_ix hr (pd_var 1) (pd_add (pd_var 2) pd_int)) (pda_cons (pd_ix hr (pd_var 1) (pd_add (pd_var 2) pd_int)) pda_nil))) pd_int)) pds_nil))))
  (pds_cons (pds_augSub hr ip_isub r2_isub (pd_fld G.a_Flow_left (pd_var 0)) (pd_ix hr (pd_var 1) pd_int) pd_int)
  (pds_one (pds_augSub hr ip_isub r2_isub (pd_fld G.a_Flow_right (pd_var 0)) (pd_ix hr (pd_var 1) (pd_neg pd_int)) pd_int))))
theorem D_tie_within (G : Gs K mg) : Def P w K mg base 3 "tie_within" 3 g_tie_within := by
  obtain ⟨f, fd, F, hm⟩ := G.f_tie_within
  refine ⟨f, fd, _, fn_ok (k := 2) F S_tie_within (xx := false) (ww := false) (hb := fun cdv A outer s H E hr tk pw => ?_), hm, F.kp, F.bindsN fun _ _ _ _ _ _ us hl => match us, hl with | [_, _, _], _ => rfl⟩
  exact (pds_cons (pds_set 3 (pd_make (D_Flow___init__ G) hr rfl (pda_cons (pd_var 0) (pda_cons (pd_var 1) (pda_cons (pd_sortSet hr rfl rfl G.n_sorted rfl G.n_set (pd_var 2)) pda_nil))) (fun Γ M ss M' e => by rw [dlen3 Γ M ss M' e])) S_tie_within.nd)
  (pds_cons (pds_tup (pd_methO0 (D_Flow_way G) hr (pd_var 3)) ((pdg_tup rfl (pdgs_cons (pdg_name 4 S_tie_within.nd) (pdgs_cons (pdg_name 5 S_tie_within.nd) pdgs_nil))) : PDG _ _ [4, 5] _))
  (pds_cons (pds_while (n := 40) pw (pdt_cm c_isnot (pd_var 4) pd_non) (pds_cons (pds_expr (pd_methO (D_Flow_send G) hr (pd_var 3) (pda_cons (pd_var 4) pda_nil) (fun Γ M ss M' e => by rw [dlen1 Γ M ss M' e])))
  (pds_one (pds_tup (pd_methO0 (D_Flow_way G) hr (pd_var 3)) ((pdg_tup rfl (pdgs_cons (pdg_name 4 S_tie_within.nd) (pdgs_cons (pdg_name 5 S_tie_within.nd) pdgs_nil))) : PDG _ _ [4, 5] _)))))
  (pds_cons (pds_if (pdt_tru (pd_var 5)) (pds_one (pds_ret (pd_tup (pda_cons pd_str (pda_cons (pd_tupleOf rfl G.n_tuple (pda_cons (pd_var 5) pda_nil)) pda_nil))))) pds_nil)
  (pds_one (pds_ret (pd_tup (pda_cons pd_str (pda_cons (pd_tupleOf rfl G.n_tuple (pda_cons (pd_compq [("pair", 6)] rfl S_tie_within.nd (pdi_seq (pd_fld G.a_Flow_pairs (pd_var 3))) (blkOk_by (by kernel_rfl)) (fun _ _ _ _ _ => ((pdg_name 6 S_tie_within.nd) : PDG _ _ [6] _)) (fun _ _ _ _ _ => (pdts_one (pdt_cm (c_gt hr) (pd_ix hr (pd_fld G.a_Flow_table (pd_var 3)) (pd_var 6)) pd_int))) (fun _ _ _ _ _ => (pd_add (pd_var 6) (pd_tup (pda_cons (pd_ix hr (pd_fld G.a_Flow_table (pd_var 3)) (pd_var 6)) pda_nil))))) pda_nil)) pda_nil)))))))))
theorem D_shows_bar (G : Gs K mg) : Def P w K mg base 2 "shows_bar" 4 g_shows_bar := by
  obtain ⟨f, fd, F, hm⟩ := G.f_shows_bar
  refine ⟨f, fd, _, fn_ok (k := 1) F S_shows_bar (xx := false) (ww := false) (hb := fun cdv A outer s H E hr tk pw => ?_), hm, F.kp, F.bindsN fun _ _ _ _ _ _ us hl => match us, hl with | [_, _, _, _], _ => rfl⟩
  exact (pds_cons (pds_if (pdt_w (pdw_or (pdt_not (pdt_tru (pd_isi "tuple" kit_tuple rfl G.n_isinstance rfl G.n_tuple (by decide +kernel) (pd_var 3)))) (pdw_or1 (pdt_not (pdt_tru (pd_all rfl rfl G.n_all (pda_cons (pd_compq [("one", 5)] rfl S_shows_bar.nd (pdi_seq (pd_var 3)) (blkOk_by (by kernel_rfl)) (fun _ _ _ _ _ => ((pdg_name 5 S_shows_bar.nd) : PDG _ _ [5] _)) (fun _ _ _ _ _ => pdts_nil) (fun _ _ _ _ _ => (pd_and (pd_call (D_is_integer G) hr rfl (pda_cons (pd_var 5) pda_nil) dlen1) (pd_one (pd_ch (c_le hr) (c_lt hr) pd_int (pd_var 5) (pd_var 0)))))) pda_nil))))))) (pds_one (pds_ret pd_bl)) pds_nil)
  (pds_cons (pds_if (pdt_not (pdt_tru (pd_all rfl rfl G.n_all (pda_cons (pd_compq [("one", 5), ("other", 6)] rfl S_shows_bar.nd (pdi_zip rfl G.n_zip (pda_cons (pd_var 3) (pda_cons (pd_sl (pd_var 3) (pdo_some pd_int) pdo_none) pda_nil))) (blkOk_by (by kernel_rfl)) (fun _ _ _ _ _ => ((pdg_tup rfl (pdgs_cons (pdg_name 5 S_shows_bar.nd) (pdgs_cons (pdg_name 6 S_shows_bar.nd) pdgs_nil))) : PDG _ _ [5, 6] _)) (fun _ _ _ _ _ => pdts_nil) (fun _ _ _ _ _ => (pd_cm (c_lt hr) (pd_var 5) (pd_var 6)))) pda_nil)))) (pds_one (pds_ret pd_bl)) pds_nil)
  (pds_cons (by first | exact pds_setCompS [("one", 5), ("other", 6)] (i := 4) rfl S_shows_bar.nd rfl rfl (sw_trueS rfl rfl rfl (by decide +kernel)) (pdi_seq (pd_var 2)) (blkOk_by (by kernel_rfl)) (fun _ _ _ _ _ => ((pdg_tup rfl (pdgs_cons (pdg_name 5 S_shows_bar.nd) (pdgs_cons (pdg_name 6 S_shows_bar.nd) pdgs_nil))) : PDG _ _ [5, 6] _)) (fun _ _ _ _ _ => (pdts_one (pdt_cm (c_in hr) (pd_var 5) (pd_var 3)))) (fun _ _ _ _ _ => (pd_var 6)) | exact pds_set 4 (pd_compS [("one", 5), ("other", 6)] rfl S_shows_bar.nd (pdi_seq (pd_var 2)) (blkOk_by (by kernel_rfl)) (fun _ _ _ _ _ => ((pdg_tup rfl (pdgs_cons (pdg_name 5 S_shows_bar.nd) (pdgs_cons (pdg_name 6 S_shows_bar.nd) pdgs_nil))) : PDG _ _ [5, 6] _)) (fun _ _ _ _ _ => (pdts_one (pdt_cm (c_in hr) (pd_var 5) (pd_var 3)))) (fun _ _ _ _ _ => (pd_var 6))) S_shows_bar.nd)
  (pds_one (pds_ret (pd_cm (c_gt hr) (pd_mul (pd_len rfl G.n_len (pd_var 3)) (pd_var 1)) (pd_mul (pd_lenS rfl G.n_len (pd_var 4)) (pd_var 0))))))))
theorem D_shows_tie_within (G : Gs K mg) : Def P w K mg base 4 "shows_tie_within" 4 g_shows_tie_within := by
  obtain ⟨f, fd, F, hm⟩ := G.f_shows_tie_within
  refine ⟨f, fd, _, fn_ok (k := 3) F S_shows_tie_within (xx := false) (ww := false) (hb := fun cdv A outer s H E hr tk pw => ?_), hm, F.kp, F.bindsN fun _ _ _ _ _ _ us hl => match us, hl with | [_, _, _, _], _ => rfl⟩
  exact (pds_one (pds_ret (pd_and (pd_call (D_is_tie G) hr rfl (pda_cons (pd_var 3) (pda_cons (pd_var 0) (pda_cons (pd_var 1) pda_nil))) dlen3) (pd_one (pd_all rfl rfl G.n_all (pda_cons (pd_compq [("row", 4)] rfl S_shows_tie_within.nd (pdi_seq (pd_var 3)) (blkOk_by (by kernel_rfl)) (fun _ _ _ _ _ => ((pdg_name 4 S_shows_tie_within.nd) : PDG _ _ [4] _)) (fun _ _ _ _ _ => pdts_nil) (fun _ _ _ _ _ => (pd_cm (c_in hr) (pd_sl (pd_var 4) pdo_none (pdo_some pd_int)) (pd_var 2)))) pda_nil))))))
theorem D__law_draw (G : Gs K mg) : Def P w K mg base 1 "_law_draw" 2 g__law_draw := by
  obtain ⟨f, fd, F, hm⟩ := G.f__law_draw
  refine ⟨f, fd, _, fn_ok (k := 0) F S__law_draw (xx := false) (ww := false) (hb := fun cdv A outer s H E hr tk pw => ?_), hm, F.kp, F.bindsN fun _ _ _ _ _ _ us hl => match us, hl with | [_, _], _ => rfl⟩
  exact (pds_cons (pds_sub hr (pd_add (pd_ix hr (pd_var 0) pd_int) pd_int) (pd_var 0) pd_int)
  (pds_cons (pds_if (pdt_cm (c_gt hr) (pd_ix hr (pd_var 0) pd_int) pd_int) (pds_cons (pds_set 2 (pd_mod (pd_int1 rfl G.n_int (pda_cons (pd_ix hr (pd_var 0) pd_int) pda_nil)) (pd_var 1)) S__law_draw.nd)
  (pds_cons (pds_sub hr (pd_div (pd_ix hr (pd_var 0) pd_int) (pd_var 1)) (pd_var 0) pd_int)
  (pds_one (pds_ret (pd_var 2))))) pds_nil)
  (pds_cons (pds_set 3 pd_int S__law_draw.nd)
  (pds_cons (pds_if (pdt_cm (c_gt hr) (pd_len rfl G.n_len (pd_ix hr (pd_var 0) pd_int)) pd_int) (pds_one (pds_set 3 (pd_abs rfl G.n_abs (pda_cons (pd_ix hr (pd_ix hr (pd_var 0) pd_int) (pd_mod (pd_int1 rfl G.n_int (pda_cons (pd_ix hr (pd_var 0) pd_int) pda_nil)) (pd_len rfl G.n_len (pd_ix hr (pd_var 0) pd_int)))) pda_nil)) S__law_draw.nd)) pds_nil)
  (pds_cons (pds_sub hr (pd_add (pd_ix hr (pd_var 0) pd_int) pd_int) (pd_var 0) pd_int)
  (pds_cons (pds_if (pdt_cm (c_ge hr) (pd_var 3) (pd_pow pd_int pd_int)) (pds_cons (pds_sub hr (pd_div (pd_var 3) (pd_var 1)) (pd_var 0) pd_int)
  (pds_one (pds_ret (pd_mod (pd_int1 rfl G.n_int (pda_cons (pd_var 3) pda_nil)) (pd_var 1))))) pds_nil)
  (pds_cons (pds_set 4 (pd_mod (pd_int1 rfl G.n_int (pda_cons (pd_add (pd_mul (pd_add (pd_var 3) pd_int) pd_int) (pd_mul (pd_ix hr (pd_var 0) pd_int) pd_int)) pda_nil)) pd_int) S__law_draw.nd)
  (pds_cons (pds_set 4 (pd_mod (pd_int1 rfl G.n_int (pda_cons (pd_add (pd_add (pd_mul (pd_var 4) pd_int) (pd_div (pd_var 3) pd_int)) (pd_ix hr (pd_var 0) pd_int)) pda_nil)) pd_int) S__law_draw.nd)
  (pds_one (pds_ret (pd_mod (pd_div (pd_var 4) pd_int) (pd_var 1))))))))))))
theorem D__law_shuffled (G : Gs K mg) : Def P w K mg base 2 "_law_shuffled" 2 g__law_shuffled := by
  obtain ⟨f, fd, F, hm⟩ := G.f__law_shuffled
  refine ⟨f, fd, _, fn_ok (k := 1) F S__law_shuffled (xx := false) (ww := true) (hb := fun cdv A outer s H E hr tk pw => ?_), hm, F.kp, F.bindsN fun _ _ _ _ _ _ us hl => match us, hl with | [_, _], _ => rfl⟩
  exact (pds_cons (pds_set 2 (pd_lstP pda_nil) S__law_shuffled.nd)
  (pds_cons (pds_for pw rfl (pdi_seq (pd_var 1)) ((pdg_name 3 S__law_shuffled.nd) : PDG _ _ [3] _) (pds_one (pds_expr (pd_insert (pd_var 2) (pda_cons (pd_call (D__law_draw G) hr rfl (pda_cons (pd_var 0) (pda_cons (pd_add (pd_len rfl G.n_len (pd_var 2)) pd_int) pda_nil)) dlen2) (pda_cons (pd_var 3) pda_nil))))))
  (pds_one (pds_ret (pd_var 2)))))
theorem D__law_some_tie (G : Gs K mg) : Def P w K mg base 3 "_law_some_tie" 3 g__law_some_tie := by
  obtain ⟨f, fd, F, hm⟩ := G.f__law_some_tie
  refine ⟨f, fd, _, fn_ok (k := 2) F S__law_some_tie (xx := false) (ww := false) (hb := fun cdv A outer s H E hr tk pw => ?_), hm, F.kp, F.bindsN fun _ _ _ _ _ _ us hl => match us, hl with | [_, _, _], _ => rfl⟩
  exact (pds_cons (pds_set 3 pd_dictN S__law_some_tie.nd)
  (pds_cons (pds_for pw rfl (pdi_rng1 rfl G.n_range (pda_cons (pd_add pd_int (pd_call (D__law_draw G) hr rfl (pda_cons (pd_var 0) (pda_cons pd_int pda_nil)) dlen2)) pda_nil) (hl := dlen1)) ((pdg_name 4 S__law_some_tie.nd) : PDG _ _ [4] _) (pds_cons (pds_set 5 (pd_call (D__law_shuffled G) hr rfl (pda_cons (pd_var 0) (pda_cons (pd_mul (pd_lstRg1 rfl rfl G.n_list rfl G.n_range (pd_var 1)) (pd_var 2)) pda_nil)) dlen2) S__law_some_tie.nd)
  (pds_cons (pds_set 6 (pd_mul (pd_lstRg1 rfl rfl G.n_list rfl G.n_range (pd_var 2)) (pd_var 1)) S__law_some_tie.nd)
  (pds_one (pds_for pw rfl (pdi_rng1 rfl G.n_range (pda_cons (pd_len rfl G.n_len (pd_var 5)) pda_nil) (hl := dlen1)) ((pdg_name 7 S__law_some_tie.nd) : PDG _ _ [7] _) (pds_one (pds_sub hr (pd_add (pd_get2 hr (pd_var 3) (pda_cons (pd_tup (pda_cons (pd_ix hr (pd_var 5) (pd_var 7)) (pda_cons (pd_ix hr (pd_var 6) (pd_var 7)) pda_nil))) (pda_cons pd_int pda_nil))) pd_int) (pd_var 3) (pd_tup (pda_cons (pd_ix hr (pd_var 5) (pd_var 7)) (pda_cons (pd_ix hr (pd_var 6) (pd_var 7)) pda_nil))))))))))
  (pds_one (pds_ret (pd_tupleOf rfl G.n_tuple (pda_cons (pd_compq [("pair", 8)] rfl S__law_some_tie.nd (pdi_seq (pd_sorted hr rfl rfl G.n_sorted (pda_cons (pd_var 3) pda_nil))) (blkOk_by (by kernel_rfl)) (fun _ _ _ _ _ => ((pdg_name 8 S__law_some_tie.nd) : PDG _ _ [8] _)) (fun _ _ _ _ _ => pdts_nil) (fun _ _ _ _ _ => (pd_add (pd_var 8) (pd_tup (pda_cons (pd_ix hr (pd_var 3) (pd_var 8)) pda_nil))))) pda_nil))))))
theorem D__law_subsets_of (G : Gs K mg) : Def P w K mg base 1 "_law_subsets_of" 1 g__law_subsets_of := by
  obtain ⟨f, fd, F, hm⟩ := G.f__law_subsets_of
  refine ⟨f, fd, _, fn_ok (k := 0) F S__law_subsets_of (xx := false) (ww := false) (hb := fun cdv A outer s H E hr tk pw => ?_), hm, F.kp, F.bindsN fun _ _ _ _ _ _ us hl => match us, hl with | [_], _ => rfl⟩
  exact (pds_cons (pds_set 1 (pd_lst (pda_cons (pd_tup pda_nil) pda_nil)) S__law_subsets_of.nd)
  (pds_cons (pds_for pw rfl (pdi_rng1 rfl G.n_range (pda_cons (pd_var 0) pda_nil) (hl := dlen1)) ((pdg_name 2 S__law_subsets_of.nd) : PDG _ _ [2] _) (pds_one (pds_set 1 (pd_add (pd_var 1) (pd_compq [("some", 3)] rfl S__law_subsets_of.nd (pdi_seq (pd_var 1)) (blkOk_by (by kernel_rfl)) (fun _ _ _ _ _ => ((pdg_name 3 S__law_subsets_of.nd) : PDG _ _ [3] _)) (fun _ _ _ _ _ => pdts_nil) (fun _ _ _ _ _ => (pd_add (pd_var 3) (pd_tup (pda_cons (pd_var 2) pda_nil)))))) S__law_subsets_of.nd)))
  (pds_one (pds_ret (pd_var 1)))))
theorem D__law_is_int (G : Gs K mg) : Def P w K mg base 1 "_law_is_int" 1 g__law_is_int := by
  obtain ⟨f, fd, F, hm⟩ := G.f__law_is_int
  refine ⟨f, fd, _, fn_ok (k := 0) F S__law_is_int (xx := false) (ww := false) (hb := fun cdv A outer s H E hr tk pw => ?_), hm, F.kp, F.bindsN fun _ _ _ _ _ _ us hl => match us, hl with | [_], _ => rfl⟩
  exact (pds_one (pds_ret (pd_and (pd_isi "int" kit_int rfl G.n_isinstance rfl G.n_int (by decide +kernel) (pd_var 0)) (pd_one (pd_not (pd_isi "bool" kit_bool rfl G.n_isinstance rfl G.n_bool (by decide +kernel) (pd_var 0)))))))
theorem D__law_led (G : Gs K mg) : Def P w K mg base 1 "_law_led" 2 g__law_led := by
  obtain ⟨f, fd, F, hm⟩ := G.f__law_led
  refine ⟨f, fd, _, fn_ok (k := 0) F S__law_led (xx := false) (ww := false) (hb := fun cdv A outer s H E hr tk pw => ?_), hm, F.kp, F.bindsN fun _ _ _ _ _ _ us hl => match us, hl with | [_, _], _ => rfl⟩
  exact (pds_cons (pds_set 2 (pd_lstP pda_nil) S__law_led.nd)
  (pds_cons (pds_for pw rfl (pdi_seq (pd_var 0)) ((pdg_tup rfl (pdgs_cons (pdg_name 3 S__law_led.nd) (pdgs_cons (pdg_name 4 S__law_led.nd) pdgs_nil))) : PDG _ _ [3, 4] _) (pds_one (pds_if (pdt_w (pdw_and (pdt_cm (c_in hr) (pd_var 3) (pd_var 1)) (pdw_and1 (pdt_cm (c_notin hr) (pd_var 4) (pd_var 2))))) (pds_one (pds_expr (pd_append (pd_var 2) (pda_cons (pd_var 4) pda_nil)))) pds_nil)))
  (pds_one (pds_ret (pd_var 2)))))
theorem D__law_is_few (G : Gs K mg) : Def P w K mg base 2 "_law_is_few" 4 g__law_is_few := by
  obtain ⟨f, fd, F, hm⟩ := G.f__law_is_few
  refine ⟨f, fd, _, fn_ok (k := 1) F S__law_is_few (xx := false) (ww := false) (hb := fun cdv A outer s H E hr tk pw => ?_), hm, F.kp, F.bindsN fun _ _ _ _ _ _ us hl => match us, hl with | [_, _, _, _], _ => rfl⟩
  exact (pds_cons (pds_if (pdt_w (pdw_or (pdt_not (pdt_tru (pd_isi "tuple" kit_tuple rfl G.n_isinstance rfl G.n_tuple (by decide +kernel) (pd_var 3)))) (pdw_or1 (pdt_not (pdt_tru (pd_all rfl rfl G.n_all (pda_cons (pd_compq [("k", 4)] rfl S__law_is_few.nd (pdi_seq (pd_var 3)) (blkOk_by (by kernel_rfl)) (fun _ _ _ _ _ => ((pdg_name 4 S__law_is_few.nd) : PDG _ _ [4] _)) (fun _ _ _ _ _ => pdts_nil) (fun _ _ _ _ _ => (pd_and (pd_call (D__law_is_int G) hr rfl (pda_cons (pd_var 4) pda_nil) dlen1) (pd_and (pd_cm (c_le hr) pd_int (pd_var 4)) (pd_one (pd_cm (c_lt hr) (pd_var 4) (pd_var 0))))))) pda_nil))))))) (pds_one (pds_ret pd_bl)) pds_nil)
  (pds_cons (pds_if (pdt_tru (pd_any rfl rfl G.n_any (pda_cons (pd_compq [("k", 4)] rfl S__law_is_few.nd (pdi_rng1 rfl G.n_range (pda_cons (pd_sub (pd_len rfl G.n_len (pd_var 3)) pd_int) pda_nil) (hl := dlen1)) (blkOk_by (by kernel_rfl)) (fun _ _ _ _ _ => ((pdg_name 4 S__law_is_few.nd) : PDG _ _ [4] _)) (fun _ _ _ _ _ => pdts_nil) (fun _ _ _ _ _ => (pd_cm (c_ge hr) (pd_ix hr (pd_var 3) (pd_var 4)) (pd_ix hr (pd_var 3) (pd_add (pd_var 4) pd_int))))) pda_nil))) (pds_one (pds_ret pd_bl)) pds_nil)
  (pds_one (pds_ret (pd_cm (c_gt hr) (pd_mul (pd_len rfl G.n_len (pd_var 3)) (pd_var 1)) (pd_mul (pd_len rfl G.n_len (pd_call (D__law_led G) hr rfl (pda_cons (pd_var 2) (pda_cons (pd_var 3) pda_nil)) dlen2)) (pd_var 0)))))))
theorem D__law_units (G : Gs K mg) : Def P w K mg base 1 "_law_units" 3 g__law_units := by
  obtain ⟨f, fd, F, hm⟩ := G.f__law_units
  refine ⟨f, fd, _, fn_ok (k := 0) F S__law_units (xx := false) (ww := false) (hb := fun cdv A outer s H E hr tk pw => ?_), hm, F.kp, F.bindsN fun _ _ _ _ _ _ us hl => match us, hl with | [_, _, _], _ => rfl⟩
  exact (pds_cons (pds_set 3 (pd_lstP pda_nil) S__law_units.nd)
  (pds_cons (pds_for pw rfl (pdi_rng1 rfl G.n_range (pda_cons (pd_var 2) pda_nil) (hl := dlen1)) ((pdg_name 4 S__law_units.nd) : PDG _ _ [4] _) (pds_one (pds_expr (pd_append (pd_var 3) (pda_cons (pd_sum rfl rfl G.n_sum (pda_cons (pd_compq [("row", 5)] rfl S__law_units.nd (pdi_seq (pd_var 0)) (blkOk_by (by kernel_rfl)) (fun _ _ _ _ _ => ((pdg_name 5 S__law_units.nd) : PDG _ _ [5] _)) (fun _ _ _ _ _ => (pdts_one (pdt_cm (c_eq hr) (pd_ix hr (pd_var 5) (pd_var 1)) (pd_var 4)))) (fun _ _ _ _ _ => (pd_ix hr (pd_var 5) pd_int))) pda_nil)) pda_nil)))))
  (pds_one (pds_ret (pd_var 3)))))
theorem D__law_is_tie (G : Gs K mg) : Def P w K mg base 2 "_law_is_tie" 3 g__law_is_tie := by
  obtain ⟨f, fd, F, hm⟩ := G.f__law_is_tie
  refine ⟨f, fd, _, fn_ok (k := 1) F S__law_is_tie (xx := false) (ww := false) (hb := fun cdv A outer s H E hr tk pw => ?_), hm, F.kp, F.bindsN fun _ _ _ _ _ _ us hl => match us, hl with | [_, _, _], _ => rfl⟩
  exact (pds_cons (pds_if (pdt_w (pdw_or (pdt_not (pdt_tru (pd_isi "tuple" kit_tuple rfl G.n_isinstance rfl G.n_tuple (by decide +kernel) (pd_var 0)))) (pdw_or1 (pdt_cm (c_eq hr) (pd_var 0) (pd_tup pda_nil))))) (pds_one (pds_ret pd_bl)) pds_nil)
  (pds_cons (pds_for pw rfl (pdi_seq (pd_var 0)) ((pdg_name 3 S__law_is_tie.nd) : PDG _ _ [3] _) (pds_cons (pds_if (pdt_w (pdw_or (pdt_not (pdt_tru (pd_isi "tuple" kit_tuple rfl G.n_isinstance rfl G.n_tuple (by decide +kernel) (pd_var 3)))) (pdw_or (pdt_cm (c_ne hr) (pd_len rfl G.n_len (pd_var 3)) pd_int) (pdw_or1 (pdt_not (pdt_tru (pd_all rfl rfl G.n_all (pda_cons (pd_compq [("x", 6)] rfl S__law_is_tie.nd (pdi_seq (pd_var 3)) (blkOk_by (by kernel_rfl)) (fun _ _ _ _ _ => ((pdg_name 6 S__law_is_tie.nd) : PDG _ _ [6] _)) (fun _ _ _ _ _ => pdts_nil) (fun _ _ _ _ _ => (pd_call (D__law_is_int G) hr rfl (pda_cons (pd_var 6) pda_nil) dlen1))) pda_nil)))))))) (pds_one (pds_ret pd_bl)) pds_nil)
  (pds_one (pds_if (pdt_w (pdw_or (pdt_cm (c_lt hr) (pd_ix hr (pd_var 3) pd_int) pd_int) (pdw_or (pdt_cm (c_ge hr) (pd_ix hr (pd_var 3) pd_int) (pd_var 1)) (pdw_or (pdt_cm (c_lt hr) (pd_ix hr (pd_var 3) pd_int) pd_int) (pdw_or (pdt_cm (c_ge hr) (pd_ix hr (pd_var 3) pd_int) (pd_var 2)) (pdw_or1 (pdt_cm (c_lt hr) (pd_ix hr (pd_var 3) pd_int) pd_int))))))) (pds_one (pds_ret pd_bl)) pds_nil))))
  (pds_cons (pds_for pw rfl (pdi_rng1 rfl G.n_range (pda_cons (pd_sub (pd_len rfl G.n_len (pd_var 0)) pd_int) pda_nil) (hl := dlen1)) ((pdg_name 4 S__law_is_tie.nd) : PDG _ _ [4] _) (pds_one (pds_if (pdt_cm (c_ge hr) (pd_sl (pd_ix hr (pd_var 0) (pd_var 4)) pdo_none (pdo_some pd_int)) (pd_sl (pd_ix hr (pd_var 0) (pd_add (pd_var 4) pd_int)) pdo_none (pdo_some pd_int))) (pds_one (pds_ret pd_bl)) pds_nil)))
  (pds_cons (pds_for pw rfl (pdi_seq (pd_lst (pda_cons (pd_call (D__law_units G) hr rfl (pda_cons (pd_var 0) (pda_cons pd_int (pda_cons (pd_var 1) pda_nil))) dlen3) (pda_cons (pd_call (D__law_units G) hr rfl (pda_cons (pd_var 0) (pda_cons pd_int (pda_cons (pd_var 2) pda_nil))) dlen3) pda_nil)))) ((pdg_name 5 S__law_is_tie.nd) : PDG _ _ [5] _) (pds_one (pds_if (pdt_tru (pd_any rfl rfl G.n_any (pda_cons (pd_compq [("x", 6)] rfl S__law_is_tie.nd (pdi_seq (pd_var 5)) (blkOk_by (by kernel_rfl)) (fun _ _ _ _ _ => ((pdg_name 6 S__law_is_tie.nd) : PDG _ _ [6] _)) (fun _ _ _ _ _ => pdts_nil) (fun _ _ _ _ _ => (pd_or (pd_cm (c_ne hr) (pd_var 6) (pd_ix hr (pd_var 5) pd_int)) (pd_one (pd_cm (c_lt hr) (pd_var 6) pd_int))))) pda_nil))) (pds_one (pds_ret pd_bl)) pds_nil)))
  (pds_one (pds_ret pd_bl))))))
theorem D__law_one_of (G : Gs K mg) : Def P w K mg base 2 "_law_one_of" 2 g__law_one_of := by
  obtain ⟨f, fd, F, hm⟩ := G.f__law_one_of
  refine ⟨f, fd, _, fn_ok (k := 1) F S__law_one_of (xx := false) (ww := false) (hb := fun cdv A outer s H E hr tk pw => ?_), hm, F.kp, F.bindsN fun _ _ _ _ _ _ us hl => match us, hl with | [_, _], _ => rfl⟩
  exact (pds_one (pds_ret (pd_ix hr (pd_var 1) (pd_call (D__law_draw G) hr rfl (pda_cons (pd_var 0) (pda_cons (pd_len rfl G.n_len (pd_var 1)) pda_nil)) dlen2))))
theorem R__law_bent (G : Gs K mg) : ∀ n, Def P w K mg base (3 + n) "_law_bent" 3 (r__law_bent n)
  | 0 => by
    obtain ⟨f, fd, F, hm⟩ := G.f__law_bent
    exact ⟨f, fd, _, (fn_ok (k := 2) F S__law_bent (xx := false) (ww := false) (db := fun _ _ => none) (hb := fun _ _ _ _ _ _ _ _ _ => pdss_none)), hm, F.kp, F.bindsN fun _ _ _ _ _ _ us hl => match us, hl with | [_, _, _], _ => rfl⟩
  | m + 1 => by
    obtain ⟨f, fd, F, hm⟩ := G.f__law_bent
    have Dr := R__law_bent G m
    refine ⟨f, fd, _, fn_ok (k := 3 + m) F S__law_bent (xx := false) (ww := false) (hb := fun cdv A outer s H E hr0 tk pw => ?_), hm, F.kp, F.bindsN fun _ _ _ _ _ _ us hl => match us, hl with | [_, _, _], _ => rfl⟩
    have hr := hr0
    exact (pds_cons (pds_if (pdt_w (pdw_and (pdt_tru (pd_isi "tuple" kit_tuple rfl G.n_isinstance rfl G.n_tuple (by decide +kernel) (pd_var 1))) (pdw_and (pdt_cm (c_gt hr) (pd_len rfl G.n_len (pd_var 1)) pd_int) (pdw_and (pdt_cm (c_lt hr) (pd_var 2) pd_int) (pdw_and1 (pdt_cm (c_gt hr) (pd_call (D__law_draw G) hr rfl (pda_cons (pd_var 0) (pda_cons pd_int pda_nil)) dlen2 (hjk := by omega)) pd_int)))))) (pds_cons (pds_set 3 (pd_call (D__law_draw G) hr rfl (pda_cons (pd_var 0) (pda_cons (pd_len rfl G.n_len (pd_var 1)) pda_nil)) dlen2 (hjk := by omega)) S__law_bent.nd)
  (pds_one (pds_ret (pd_add (pd_add (pd_sl (pd_var 1) pdo_none (pdo_some (pd_var 3))) (pd_tup (pda_cons (pd_call Dr hr rfl (pda_cons (pd_var 0) (pda_cons (pd_ix hr (pd_var 1) (pd_var 3)) (pda_cons (pd_add (pd_var 2) pd_int) pda_nil))) dlen3 (hjk := by omega)) pda_nil))) (pd_sl (pd_var 1) (pdo_some (pd_add (pd_var 3) pd_int)) pdo_none))))) pds_nil)
  (pds_cons (pds_if (pdt_tru (pd_isi "tuple" kit_tuple rfl G.n_isinstance rfl G.n_tuple (by decide +kernel) (pd_var 1))) (pds_cons (pds_set 3 (pd_call (D__law_draw G) hr rfl (pda_cons (pd_var 0) (pda_cons (pd_add (pd_len rfl G.n_len (pd_var 1)) pd_int) pda_nil)) dlen2 (hjk := by omega)) S__law_bent.nd)
  (pds_cons (pds_set 4 (pd_lst (pda_cons (pd_add (pd_sl (pd_var 1) pdo_none (pdo_some (pd_var 3))) (pd_sl (pd_var 1) (pdo_some (pd_add (pd_var 3) pd_int)) pdo_none)) (pda_cons (pd_add (pd_add (pd_sl (pd_var 1) pdo_none (pdo_some (pd_var 3))) (pd_sl (pd_var 1) (pdo_some (pd_var 3)) (pdo_some (pd_add (pd_var 3) pd_int)))) (pd_sl (pd_var 1) (pdo_some (pd_var 3)) pdo_none)) (pda_cons (pd_add (pd_var 1) (pd_tup (pda_cons pd_int pda_nil))) (pda_cons (pd_tup pda_nil) pda_nil))))) S__law_bent.nd)
  (pds_one (pds_ret (pd_call (D__law_one_of G) hr rfl (pda_cons (pd_var 0) (pda_cons (pd_add (pd_var 4) (pd_lst (pda_cons (pd_add (pd_sl (pd_var 1) (pdo_some (pd_var 3)) pdo_none) (pd_sl (pd_var 1) pdo_none (pdo_some (pd_var 3)))) (pda_cons (pd_rev (pd_var 1)) (pda_cons pd_str pda_nil))))) pda_nil)) dlen2 (hjk := by omega)))))) pds_nil)
  (pds_cons (pds_if (pdt_tru (pd_isi "str" kit_str rfl G.n_isinstance rfl G.n_str (by decide +kernel) (pd_var 1))) (pds_one (pds_ret (pd_call (D__law_one_of G) hr rfl (pda_cons (pd_var 0) (pda_cons (pd_lst (pda_cons pd_str (pda_cons pd_str (pda_cons pd_str (pda_cons pd_str (pda_cons (pd_add (pd_var 1) pd_str) (pda_cons (pd_sl (pd_var 1) (pdo_some pd_int) pdo_none) (pda_cons pd_int pda_nil)))))))) pda_nil)) dlen2 (hjk := by omega)))) pds_nil)
  (pds_one (pds_ret (pd_call (D__law_one_of G) hr rfl (pda_cons (pd_var 0) (pda_cons (pd_lst (pda_cons (pd_add (pd_var 1) pd_int) (pda_cons (pd_sub (pd_var 1) pd_int) (pda_cons (pd_neg (pd_var 1)) (pda_cons pd_int (pda_cons pd_str (pda_cons (pd_tup (pda_cons (pd_var 1) pda_nil)) pda_nil))))))) pda_nil)) dlen2 (hjk := by omega)))))))
theorem D__law_bent (G : Gs K mg) : Def P w K mg base 34 "_law_bent" 3 g__law_bent := R__law_bent G 31
theorem D__law_says (G : Gs K mg) : Def P w K mg base 1 "_law_says" 2 g__law_says := by
  obtain ⟨f, fd, F, hm⟩ := G.f__law_says
  refine ⟨f, fd, _, fn_ok (k := 0) F S__law_says (xx := false) (ww := false) (hb := fun cdv A outer s H E hr tk pw => ?_), hm, F.kp, F.bindsN fun _ _ _ _ _ _ us hl => match us, hl with | [_, _], _ => rfl⟩
  exact (pds_cons (pds_if (pdt_tru (pd_var 1)) (pds_one (pds_ret (pd_cm c_is (pd_var 0) pd_bl))) pds_nil)
  (pds_one (pds_ret (pd_cm c_is (pd_var 0) pd_bl))))
theorem ok_law (G : Gs K mg) (hlaw : ∀ ns : List Int, ns.length ≤ 63 → ∃ Γ' M', b_law (none :: some (.ptr 0) :: List.replicate (18 - 2) none) [.fl (state0 ns)] = some (.rt (.dat (.bool true)), Γ', M')) : ∃ f fd, mg "law" = some (.ref f) ∧ FnP K "law" st_law f fd ∧ FnOk P w K mg base CX0 35 f fd ["script"] (spLaw K) := by
  obtain ⟨f, fd, F, hm⟩ := G.f_law
  obtain ⟨fs, fds, Fs, hms⟩ := G.f__law_start
  refine ⟨f, fd, hm, F, law_ok (N := ["script", "state", "many", "others", "pairs", "dense", "i", "j", "tie", "bars", "told", "data", "turn", "datum", "due", "row", "some", "k"]) (k := 34) F S_law rfl rfl rfl (by first | exact .inl rfl | exact .inr rfl) (fun _ _ => rfl) (start_ok Fs S__law_start (fun _ _ => rfl) G.n_list rfl rfl) hms Fs.kp (Fs.bindsN fun _ _ _ _ _ _ us hl => match us, hl with | [_], _ => rfl) (by decide) rfl (fun cdv A outer s H E hr => ?_) hlaw⟩
  have tk : Takes (cxOf CX0 P w K mg base ["script", "state", "many", "others", "pairs", "dense", "i", "j", "tie", "bars", "told", "data", "turn", "datum", "due", "row", "some", "k"] "law" (defScope st_law) f cdv A outer s H E).nox (fun _ _ _ _ => False) := takes0
  have pw : PassesOwn (model P w) (cxOf CX0 P w K mg base ["script", "state", "many", "others", "pairs", "dense", "i", "j", "tie", "bars", "told", "data", "turn", "datum", "due", "row", "some", "k"] "law" (defScope st_law) f cdv A outer s H E).nox.A (cxOf CX0 P w K mg base ["script", "state", "many", "others", "pairs", "dense", "i", "j", "tie", "bars", "told", "data", "turn", "datum", "due", "row", "some", "k"] "law" (defScope st_law) f cdv A outer s H E).nox.env (cxOf CX0 P w K mg base ["script", "state", "many", "others", "pairs", "dense", "i", "j", "tie", "bars", "told", "data", "turn", "datum", "due", "row", "some", "k"] "law" (defScope st_law) f cdv A outer s H E).nox.xe := PassesOwn.never
  exact (pds_cons (pds_set 2 (pd_add pd_int (pd_call (D__law_draw G) hr rfl (pda_cons (pd_var 1) (pda_cons pd_int pda_nil)) dlen2)) S_law.nd)
  (pds_cons (pds_set 3 (pd_add pd_int (pd_call (D__law_draw G) hr rfl (pda_cons (pd_var 1) (pda_cons pd_int pda_nil)) dlen2)) S_law.nd)
  (pds_cons (pds_set 4 (pd_lstP pda_nil) S_law.nd)
  (pds_cons (pds_set 5 (pd_add pd_int (pd_call (D__law_draw G) hr rfl (pda_cons (pd_var 1) (pda_cons pd_int pda_nil)) dlen2)) S_law.nd)
  (pds_cons (pds_for pw rfl (pdi_rng1 rfl G.n_range (pda_cons (pd_var 2) pda_nil) (hl := dlen1)) ((pdg_name 6 S_law.nd) : PDG _ _ [6] _) (pds_one (pds_for pw rfl (pdi_rng1 rfl G.n_range (pda_cons (pd_var 3) pda_nil) (hl := dlen1)) ((pdg_name 7 S_law.nd) : PDG _ _ [7] _) (pds_one (pds_if (pdt_cm (c_lt hr) (pd_call (D__law_draw G) hr rfl (pda_cons (pd_var 1) (pda_cons pd_int pda_nil)) dlen2) (pd_var 5)) (pds_one (pds_expr (pd_append (pd_var 4) (pda_cons (pd_tup (pda_cons (pd_var 6) (pda_cons (pd_var 7) pda_nil))) pda_nil)))) pds_nil)))))
  (pds_cons (pds_if (pdt_cm (c_eq hr) (pd_call (D__law_draw G) hr rfl (pda_cons (pd_var 1) (pda_cons pd_int pda_nil)) dlen2) pd_int) (pds_cons (pds_set 8 (pd_call (D__law_some_tie G) hr rfl (pda_cons (pd_var 1) (pda_cons (pd_var 2) (pda_cons (pd_var 3) pda_nil))) dlen3) S_law.nd)
  (pds_one (pds_set 4 (pd_add (m := true) (pd_var 4) (pd_compq [("row", 15)] rfl S_law.nd (pdi_seq (pd_var 8)) (blkOk_by (by kernel_rfl)) (fun _ _ _ _ _ => ((pdg_name 15 S_law.nd) : PDG _ _ [15] _)) (fun _ _ _ _ _ => (pdts_one (pdt_cm (c_notin hr) (pd_sl (pd_var 15) pdo_none (pdo_some pd_int)) (pd_var 4)))) (fun _ _ _ _ _ => (pd_sl (pd_var 15) pdo_none (pdo_some pd_int))))) S_law.nd))) pds_nil)
  (pds_cons (pds_set 4 (pd_tupleOf rfl G.n_tuple (pda_cons (pd_call (D__law_shuffled G) hr rfl (pda_cons (pd_var 1) (pda_cons (pd_var 4) pda_nil)) dlen2) pda_nil)) S_law.nd)
  (pds_cons (by first | exact pds_setCompq [("some", 16)] (i := 9) rfl S_law.nd rfl rfl (sw_true rfl rfl rfl (by decide +kernel)) (pdi_seq (pd_call (D__law_subsets_of G) hr rfl (pda_cons (pd_var 2) pda_nil) dlen1)) (blkOk_by (by kernel_rfl)) (fun _ _ _ _ _ => ((pdg_name 16 S_law.nd) : PDG _ _ [16] _)) (fun _ _ _ _ _ => (pdts_one (pdt_tru (pd_call (D__law_is_few G) hr rfl (pda_cons (pd_var 2) (pda_cons (pd_var 3) (pda_cons (pd_var 4) (pda_cons (pd_var 16) pda_nil)))) dlen4)))) (fun _ _ _ _ _ => (pd_var 16)) | exact pds_set 9 (pd_compq [("some", 16)] rfl S_law.nd (pdi_seq (pd_call (D__law_subsets_of G) hr rfl (pda_cons (pd_var 2) pda_nil) dlen1)) (blkOk_by (by kernel_rfl)) (fun _ _ _ _ _ => ((pdg_name 16 S_law.nd) : PDG _ _ [16] _)) (fun _ _ _ _ _ => (pdts_one (pdt_tru (pd_call (D__law_is_few G) hr rfl (pda_cons (pd_var 2) (pda_cons (pd_var 3) (pda_cons (pd_var 4) (pda_cons (pd_var 16) pda_nil)))) dlen4)))) (fun _ _ _ _ _ => (pd_var 16))) S_law.nd)
  (pds_cons (pds_set 10 (pd_call (D_tie_within G) hr rfl (pda_cons (pd_var 2) (pda_cons (pd_var 3) (pda_cons (pd_var 4) pda_nil))) dlen3) S_law.nd)
  (pds_cons (pds_if (pdt_w (pdw_or (pdt_not (pdt_tru (pd_isi "tuple" kit_tuple rfl G.n_isinstance rfl G.n_tuple (by decide +kernel) (pd_var 10)))) (pdw_or (pdt_cm (c_ne hr) (pd_len rfl G.n_len (pd_var 10)) pd_int) (pdw_or1 (pdt_cm (c_ne hr) (pd_ix hr (pd_var 10) pd_int) (pd_ix hr (pd_lst (pda_cons pd_str (pda_cons pd_str pda_nil))) (pd_int1 rfl G.n_int (pda_cons (pd_cm (c_ne hr) (pd_var 9) (pd_lst pda_nil)) pda_nil)))))))) (pds_one (pds_ret pd_bl)) pds_nil)
  (pds_cons (pds_if (pdt_cm (c_eq hr) (pd_ix hr (pd_var 10) pd_int) pd_str) (pds_one (pds_if (pdt_w (pdw_or (pdt_not (pdt_tru (pd_call (D__law_is_tie G) hr rfl (pda_cons (pd_ix hr (pd_var 10) pd_int) (pda_cons (pd_var 2) (pda_cons (pd_var 3) pda_nil))) dlen3))) (pdw_or1 (pdt_not (pdt_tru (pd_all rfl rfl G.n_all (pda_cons (pd_compq [("row", 15)] rfl S_law.nd (pdi_seq (pd_ix hr (pd_var 10) pd_int)) (blkOk_by (by kernel_rfl)) (fun _ _ _ _ _ => ((pdg_name 15 S_law.nd) : PDG _ _ [15] _)) (fun _ _ _ _ _ => pdts_nil) (fun _ _ _ _ _ => (pd_cm (c_in hr) (pd_sl (pd_var 15) pdo_none (pdo_some pd_int)) (pd_var 4)))) pda_nil))))))) (pds_one (pds_ret pd_bl)) pds_nil)) (pds_one (pds_if (pdt_cm (c_notin hr) (pd_ix hr (pd_var 10) pd_int) (pd_var 9)) (pds_one (pds_ret pd_bl)) pds_nil)))
  (pds_cons (pds_set 11 (pd_lstP (pda_cons (pd_ix hr (pd_var 10) pd_int) (pda_cons (pd_tup pda_nil) (pda_cons (pd_tup (pda_cons pd_int pda_nil)) (pda_cons pd_int (pda_cons (pd_tupleOf rfl G.n_tuple (pda_cons (pd_compq [("k", 17)] rfl S_law.nd (pdi_rng1 rfl G.n_range (pda_cons (pd_var 2) pda_nil) (hl := dlen1)) (blkOk_by (by kernel_rfl)) (fun _ _ _ _ _ => ((pdg_name 17 S_law.nd) : PDG _ _ [17] _)) (fun _ _ _ _ _ => pdts_nil) (fun _ _ _ _ _ => (pd_var 17))) pda_nil)) (pda_cons (pd_call (D__law_some_tie G) hr rfl (pda_cons (pd_var 1) (pda_cons (pd_var 2) (pda_cons (pd_var 3) pda_nil))) dlen3) pda_nil))))))) S_law.nd)
  (pds_cons (pds_for pw rfl (pdi_rng1 rfl G.n_range (pda_cons pd_int pda_nil) (hl := dlen1)) ((pdg_name 12 S_law.nd) : PDG _ _ [12] _) (pds_cons (pds_expr (pd_append (pd_var 11) (pda_cons (pd_call (D__law_bent G) hr rfl (pda_cons (pd_var 1) (pda_cons (pd_ix hr (pd_var 10) pd_int) (pda_cons pd_int pda_nil))) dlen3) pda_nil)))
  (pds_one (pds_expr (pd_append (pd_var 11) (pda_cons (pd_call (D__law_one_of G) hr rfl (pda_cons (pd_var 1) (pda_cons (pd_call (D__law_subsets_of G) hr rfl (pda_cons (pd_var 2) pda_nil) dlen1) pda_nil)) dlen2) pda_nil))))))
  (pds_cons (pds_for pw rfl (pdi_seq (pd_var 11)) ((pdg_name 13 S_law.nd) : PDG _ _ [13] _) (pds_cons (pds_if (pdt_not (pdt_tru (pd_call (D__law_says G) hr rfl (pda_cons (pd_call (D_shows_bar G) hr rfl (pda_cons (pd_var 2) (pda_cons (pd_var 3) (pda_cons (pd_var 4) (pda_cons (pd_var 13) pda_nil)))) dlen4) (pda_cons (pd_call (D__law_is_few G) hr rfl (pda_cons (pd_var 2) (pda_cons (pd_var 3) (pda_cons (pd_var 4) (pda_cons (pd_var 13) pda_nil)))) dlen4) pda_nil)) dlen2))) (pds_one (pds_ret pd_bl)) pds_nil)
  (pds_cons (pds_set 14 (pd_and (pd_call (D__law_is_tie G) hr rfl (pda_cons (pd_var 13) (pda_cons (pd_var 2) (pda_cons (pd_var 3) pda_nil))) dlen3) (pd_one (pd_all rfl rfl G.n_all (pda_cons (pd_compq [("row", 15)] rfl S_law.nd (pdi_seq (pd_var 13)) (blkOk_by (by kernel_rfl)) (fun _ _ _ _ _ => ((pdg_name 15 S_law.nd) : PDG _ _ [15] _)) (fun _ _ _ _ _ => pdts_nil) (fun _ _ _ _ _ => (pd_cm (c_in hr) (pd_sl (pd_var 15) pdo_none (pdo_some pd_int)) (pd_var 4)))) pda_nil)))) S_law.nd)
  (pds_one (pds_if (pdt_not (pdt_tru (pd_call (D__law_says G) hr rfl (pda_cons (pd_call (D_shows_tie_within G) hr rfl (pda_cons (pd_var 2) (pda_cons (pd_var 3) (pda_cons (pd_var 4) (pda_cons (pd_var 13) pda_nil)))) dlen4) (pda_cons (pd_var 14) pda_nil)) dlen2))) (pds_one (pds_ret pd_bl)) pds_nil)))))
  (pds_one (pds_ret pd_bl))))))))))))))))
end
def d_is_integer : He.DefD := ⟨("is_integer", none), "is_integer", "is_integer", defArgs st_is_integer, defBody st_is_integer, defScope st_is_integer, [], []⟩
def d_is_tuple : He.DefD := ⟨("is_tuple", none), "is_tuple", "is_tuple", defArgs st_is_tuple, defBody st_is_tuple, defScope st_is_tuple, [], []⟩
def d_sums_by : He.DefD := ⟨("sums_by", none), "sums_by", "sums_by", defArgs st_sums_by, defBody st_sums_by, defScope st_sums_by, [], []⟩
def d_is_row : He.DefD := ⟨("is_row", none), "is_row", "is_row", defArgs st_is_row, defBody st_is_row, defScope st_is_row, [], []⟩
def d_are_even : He.DefD := ⟨("are_even", none), "are_even", "are_even", defArgs st_are_even, defBody st_are_even, defScope st_are_even, [], []⟩
def d_is_tie : He.DefD := ⟨("is_tie", none), "is_tie", "is_tie", defArgs st_is_tie, defBody st_is_tie, defScope st_is_tie, [], []⟩
def d_Flow___init__ : He.DefD := ⟨("Flow", some "__init__"), "__init__", "Flow.__init__", defArgs st_Flow___init__, defBody st_Flow___init__, defScope st_Flow___init__, [], []⟩
def d_Flow_way : He.DefD := ⟨("Flow", some "way"), "way", "Flow.way", defArgs st_Flow_way, defBody st_Flow_way, defScope st_Flow_way, [], []⟩
def d_Flow_send : He.DefD := ⟨("Flow", some "send"), "send", "Flow.send", defArgs st_Flow_send, defBody st_Flow_send, defScope st_Flow_send, [], []⟩
def d_tie_within : He.DefD := ⟨("tie_within", none), "tie_within", "tie_within", defArgs st_tie_within, defBody st_tie_within, defScope st_tie_within, [], []⟩
def d_shows_bar : He.DefD := ⟨("shows_bar", none), "shows_bar", "shows_bar", defArgs st_shows_bar, defBody st_shows_bar, defScope st_shows_bar, [], []⟩
def d_shows_tie_within : He.DefD := ⟨("shows_tie_within", none), "shows_tie_within", "shows_tie_within", defArgs st_shows_tie_within, defBody st_shows_tie_within, defScope st_shows_tie_within, [], []⟩
def d__law_start : He.DefD := ⟨("_law_start", none), "_law_start", "_law_start", defArgs st__law_start, defBody st__law_start, defScope st__law_start, [], []⟩
def d__law_draw : He.DefD := ⟨("_law_draw", none), "_law_draw", "_law_draw", defArgs st__law_draw, defBody st__law_draw, defScope st__law_draw, [], []⟩
def d__law_shuffled : He.DefD := ⟨("_law_shuffled", none), "_law_shuffled", "_law_shuffled", defArgs st__law_shuffled, defBody st__law_shuffled, defScope st__law_shuffled, [], []⟩
def d__law_some_tie : He.DefD := ⟨("_law_some_tie", none), "_law_some_tie", "_law_some_tie", defArgs st__law_some_tie, defBody st__law_some_tie, defScope st__law_some_tie, [], []⟩
def d__law_subsets_of : He.DefD := ⟨("_law_subsets_of", none), "_law_subsets_of", "_law_subsets_of", defArgs st__law_subsets_of, defBody st__law_subsets_of, defScope st__law_subsets_of, [], []⟩
def d__law_is_int : He.DefD := ⟨("_law_is_int", none), "_law_is_int", "_law_is_int", defArgs st__law_is_int, defBody st__law_is_int, defScope st__law_is_int, [], []⟩
def d__law_led : He.DefD := ⟨("_law_led", none), "_law_led", "_law_led", defArgs st__law_led, defBody st__law_led, defScope st__law_led, [], []⟩
def d__law_is_few : He.DefD := ⟨("_law_is_few", none), "_law_is_few", "_law_is_few", defArgs st__law_is_few, defBody st__law_is_few, defScope st__law_is_few, [], []⟩
def d__law_units : He.DefD := ⟨("_law_units", none), "_law_units", "_law_units", defArgs st__law_units, defBody st__law_units, defScope st__law_units, [], []⟩
def d__law_is_tie : He.DefD := ⟨("_law_is_tie", none), "_law_is_tie", "_law_is_tie", defArgs st__law_is_tie, defBody st__law_is_tie, defScope st__law_is_tie, [], []⟩
def d__law_one_of : He.DefD := ⟨("_law_one_of", none), "_law_one_of", "_law_one_of", defArgs st__law_one_of, defBody st__law_one_of, defScope st__law_one_of, [], []⟩
def d__law_bent : He.DefD := ⟨("_law_bent", none), "_law_bent", "_law_bent", defArgs st__law_bent, defBody st__law_bent, defScope st__law_bent, [], []⟩
def d__law_says : He.DefD := ⟨("_law_says", none), "_law_says", "_law_says", defArgs st__law_says, defBody st__law_says, defScope st__law_says, [], []⟩
def d_law : He.DefD := ⟨("law", none), "law", "law", defArgs st_law, defBody st_law, defScope st_law, [], []⟩
def fn : List He.DefD := [d_is_integer, d_is_tuple, d_sums_by, d_is_row, d_are_even, d_is_tie, d_Flow___init__, d_Flow_way, d_Flow_send, d_tie_within, d_shows_bar, d_shows_tie_within, d__law_start, d__law_draw, d__law_shuffled, d__law_some_tie, d__law_subsets_of, d__law_is_int, d__law_led, d__law_is_few, d__law_units, d__law_is_tie, d__law_one_of, d__law_bent, d__law_says, d_law]
def fa : List He.Fa := [.glo "is_integer", .glo "is_tuple", .glo "sums_by", .glo "is_row", .glo "are_even", .glo "is_tie", .glo "Flow", .mkr "Flow", .cls "Flow", .meth "Flow" "way", .meth "Flow" "send", .glo "tie_within", .glo "shows_bar", .glo "shows_tie_within", .glo "_law_start", .glo "_law_draw", .glo "_law_shuffled", .glo "_law_some_tie", .glo "_law_subsets_of", .glo "_law_is_int", .glo "_law_led", .glo "_law_is_few", .glo "_law_units", .glo "_law_is_tie", .glo "_law_one_of", .glo "_law_bent", .glo "_law_says", .glo "law", .free "abs", .free "all", .free "any", .free "bool", .free "int", .free "isinstance", .free "len", .free "list", .free "range", .free "set", .free "sorted", .free "str", .free "sum", .free "tuple", .free "zip", .noat "Flow" "many", .noat "Flow" "others", .noat "Flow" "pairs", .noat "Flow" "left", .noat "Flow" "right", .noat "Flow" "table"]
def ex (K : PySem.W.Frag) : Bool := true
abbrev R : PySem.W.OpenRow := PySem.W.OpenLaw.row PySem.Challenge.rw_drawnalike_k02_whole_flows_and_bars
abbrev hk : PySem.W.Hook := He.hookX 6 fa fn [] [] ex
def ob (s : PySem.W.SharedT) : He.AlX := He.obsX 6 fa fn [] [] ex (HandSHeadRun.getT s)
theorem ob_eq (s : PySem.W.SharedT) : ob s = hk.obs s.abs := He.obsX_eq (HandSHeadRun.getT_eq s)
def loose : List PySem.Str := (["is_integer", "is_tuple", "sums_by", "is_row", "are_even", "is_tie", "Flow", "tie_within", "shows_bar", "shows_tie_within", "_law_start", "_law_draw", "_law_shuffled", "_law_some_tie", "_law_subsets_of", "_law_is_int", "_law_led", "_law_is_few", "_law_units", "_law_is_tie", "_law_one_of", "_law_bent", "_law_says"] : List PySem.Str)
theorem run (w : World) : HandSHeadRun.RunEq R (PySem.W.view R.prog [26]) hk ob 4000 loose w := by
  intro os
  kernel_rfl
theorem gs_of {w : World} {h0 : Heap} {K : PySem.W.Frag} {h : Heap} {mg : Str → Option Value} (X : K.In h) (G : h.Ns mainGlobals mg) (cx : He.SaysX fa fn [] [] ex w h0 K) : Gs K mg :=
  let c : He.SaysD fa fn K := cx.t.d
  let ⟨fd0, F0⟩ := c.def_ 0 (d := d_is_integer) rfl
  let ⟨fd1, F1⟩ := c.def_ 1 (d := d_is_tuple) rfl
  let ⟨fd2, F2⟩ := c.def_ 2 (d := d_sums_by) rfl
  let ⟨fd3, F3⟩ := c.def_ 3 (d := d_is_row) rfl
  let ⟨fd4, F4⟩ := c.def_ 4 (d := d_are_even) rfl
  let ⟨fd5, F5⟩ := c.def_ 5 (d := d_is_tie) rfl
  let ⟨fd6, F6⟩ := c.def_ 6 (d := d_Flow___init__) rfl
  let ⟨fd7, F7⟩ := c.def_ 7 (d := d_Flow_way) rfl
  let ⟨fd8, F8⟩ := c.def_ 8 (d := d_Flow_send) rfl
  let ⟨fd9, F9⟩ := c.def_ 9 (d := d_tie_within) rfl
  let ⟨fd10, F10⟩ := c.def_ 10 (d := d_shows_bar) rfl
  let ⟨fd11, F11⟩ := c.def_ 11 (d := d_shows_tie_within) rfl
  let ⟨fd12, F12⟩ := c.def_ 12 (d := d__law_start) rfl
  let ⟨fd13, F13⟩ := c.def_ 13 (d := d__law_draw) rfl
  let ⟨fd14, F14⟩ := c.def_ 14 (d := d__law_shuffled) rfl
  let ⟨fd15, F15⟩ := c.def_ 15 (d := d__law_some_tie) rfl
  let ⟨fd16, F16⟩ := c.def_ 16 (d := d__law_subsets_of) rfl
  let ⟨fd17, F17⟩ := c.def_ 17 (d := d__law_is_int) rfl
  let ⟨fd18, F18⟩ := c.def_ 18 (d := d__law_led) rfl
  let ⟨fd19, F19⟩ := c.def_ 19 (d := d__law_is_few) rfl
  let ⟨fd20, F20⟩ := c.def_ 20 (d := d__law_units) rfl
  let ⟨fd21, F21⟩ := c.def_ 21 (d := d__law_is_tie) rfl
  let ⟨fd22, F22⟩ := c.def_ 22 (d := d__law_one_of) rfl
  let ⟨fd23, F23⟩ := c.def_ 23 (d := d__law_bent) rfl
  let ⟨fd24, F24⟩ := c.def_ 24 (d := d__law_says) rfl
  let ⟨fd25, F25⟩ := c.def_ 25 (d := d_law) rfl
  ⟨⟨_, fd0, F0, He.glo_ok X G (c.fact 0 (f := .glo "is_integer") rfl)⟩,
   ⟨_, fd1, F1, He.glo_ok X G (c.fact 1 (f := .glo "is_tuple") rfl)⟩,
   ⟨_, fd2, F2, He.glo_ok X G (c.fact 2 (f := .glo "sums_by") rfl)⟩,
   ⟨_, fd3, F3, He.glo_ok X G (c.fact 3 (f := .glo "is_row") rfl)⟩,
   ⟨_, fd4, F4, He.glo_ok X G (c.fact 4 (f := .glo "are_even") rfl)⟩,
   ⟨_, fd5, F5, He.glo_ok X G (c.fact 5 (f := .glo "is_tie") rfl)⟩,
   ⟨_, _, fd6, He.glo_ok X G (c.fact 6 (f := .glo "Flow") rfl), He.mkr_ok (c.fact 7 (f := .mkr "Flow") rfl), F6⟩,
   ⟨_, _, fd7, He.glo_ok X G (c.fact 6 (f := .glo "Flow") rfl), He.cls_ok (c.fact 8 (f := .cls "Flow") rfl), He.meth_ok (c.fact 9 (f := .meth "Flow" "way") rfl), F7⟩,
   ⟨_, _, fd8, He.glo_ok X G (c.fact 6 (f := .glo "Flow") rfl), He.cls_ok (c.fact 8 (f := .cls "Flow") rfl), He.meth_ok (c.fact 10 (f := .meth "Flow" "send") rfl), F8⟩,
   ⟨_, fd9, F9, He.glo_ok X G (c.fact 11 (f := .glo "tie_within") rfl)⟩,
   ⟨_, fd10, F10, He.glo_ok X G (c.fact 12 (f := .glo "shows_bar") rfl)⟩,
   ⟨_, fd11, F11, He.glo_ok X G (c.fact 13 (f := .glo "shows_tie_within") rfl)⟩,
   ⟨_, fd12, F12, He.glo_ok X G (c.fact 14 (f := .glo "_law_start") rfl)⟩,
   ⟨_, fd13, F13, He.glo_ok X G (c.fact 15 (f := .glo "_law_draw") rfl)⟩,
   ⟨_, fd14, F14, He.glo_ok X G (c.fact 16 (f := .glo "_law_shuffled") rfl)⟩,
   ⟨_, fd15, F15, He.glo_ok X G (c.fact 17 (f := .glo "_law_some_tie") rfl)⟩,
   ⟨_, fd16, F16, He.glo_ok X G (c.fact 18 (f := .glo "_law_subsets_of") rfl)⟩,
   ⟨_, fd17, F17, He.glo_ok X G (c.fact 19 (f := .glo "_law_is_int") rfl)⟩,
   ⟨_, fd18, F18, He.glo_ok X G (c.fact 20 (f := .glo "_law_led") rfl)⟩,
   ⟨_, fd19, F19, He.glo_ok X G (c.fact 21 (f := .glo "_law_is_few") rfl)⟩,
   ⟨_, fd20, F20, He.glo_ok X G (c.fact 22 (f := .glo "_law_units") rfl)⟩,
   ⟨_, fd21, F21, He.glo_ok X G (c.fact 23 (f := .glo "_law_is_tie") rfl)⟩,
   ⟨_, fd22, F22, He.glo_ok X G (c.fact 24 (f := .glo "_law_one_of") rfl)⟩,
   ⟨_, fd23, F23, He.glo_ok X G (c.fact 25 (f := .glo "_law_bent") rfl)⟩,
   ⟨_, fd24, F24, He.glo_ok X G (c.fact 26 (f := .glo "_law_says") rfl)⟩,
   ⟨_, fd25, F25, He.glo_ok X G (c.fact 27 (f := .glo "law") rfl)⟩,
   He.free_ok X G (c.fact 28 (f := .free "abs") rfl),
   He.free_ok X G (c.fact 29 (f := .free "all") rfl),
   He.free_ok X G (c.fact 30 (f := .free "any") rfl),
   He.free_ok X G (c.fact 31 (f := .free "bool") rfl),
   He.free_ok X G (c.fact 32 (f := .free "int") rfl),
   He.free_ok X G (c.fact 33 (f := .free "isinstance") rfl),
   He.free_ok X G (c.fact 34 (f := .free "len") rfl),
   He.free_ok X G (c.fact 35 (f := .free "list") rfl),
   He.free_ok X G (c.fact 36 (f := .free "range") rfl),
   He.free_ok X G (c.fact 37 (f := .free "set") rfl),
   He.free_ok X G (c.fact 38 (f := .free "sorted") rfl),
   He.free_ok X G (c.fact 39 (f := .free "str") rfl),
   He.free_ok X G (c.fact 40 (f := .free "sum") rfl),
   He.free_ok X G (c.fact 41 (f := .free "tuple") rfl),
   He.free_ok X G (c.fact 42 (f := .free "zip") rfl),
   ⟨_, He.glo_ok X G (c.fact 6 (f := .glo "Flow") rfl), He.cls_ok (c.fact 8 (f := .cls "Flow") rfl), He.noat_ok (c.fact 43 (f := .noat "Flow" "many") rfl)⟩,
   ⟨_, He.glo_ok X G (c.fact 6 (f := .glo "Flow") rfl), He.cls_ok (c.fact 8 (f := .cls "Flow") rfl), He.noat_ok (c.fact 44 (f := .noat "Flow" "others") rfl)⟩,
   ⟨_, He.glo_ok X G (c.fact 6 (f := .glo "Flow") rfl), He.cls_ok (c.fact 8 (f := .cls "Flow") rfl), He.noat_ok (c.fact 45 (f := .noat "Flow" "pairs") rfl)⟩,
   ⟨_, He.glo_ok X G (c.fact 6 (f := .glo "Flow") rfl), He.cls_ok (c.fact 8 (f := .cls "Flow") rfl), He.noat_ok (c.fact 46 (f := .noat "Flow" "left") rfl)⟩,
   ⟨_, He.glo_ok X G (c.fact 6 (f := .glo "Flow") rfl), He.cls_ok (c.fact 8 (f := .cls "Flow") rfl), He.noat_ok (c.fact 47 (f := .noat "Flow" "right") rfl)⟩,
   ⟨_, He.glo_ok X G (c.fact 6 (f := .glo "Flow") rfl), He.cls_ok (c.fact 8 (f := .cls "Flow") rfl), He.noat_ok (c.fact 48 (f := .noat "Flow" "table") rfl)⟩⟩
theorem fd_same {K : PySem.W.Frag} {x qual : Str} {params : Arguments} {body : List Stmt} {scope : Scope} {f : Addr} {fd fd' : FuncData} (F : FunD K x qual params body scope [] [] f fd) (F' : FunD K x qual params body scope [] [] f fd') : fd = fd' := by
  obtain ⟨oc, od, dV, kV, doc, pm, an, cdv, ct, osl, h1, lk, _⟩ := F.ex
  obtain ⟨oc', od', dV', kV', doc', pm', an', cdv', ct', osl', h1', lk', _⟩ := F'.ex
  have e := Option.some.inj (lk.symm.trans lk')
  cases e
  rfl
end K02
open PySem PySem.W PySem.Calls PyProof.Rows in
theorem K02.holds_of (hlaw : ∀ ns : List Int, ns.length ≤ 63 → ∃ Γ' M', K02.b_law (none :: some (.ptr 0) :: List.replicate (18 - 2) none) [.fl (EL.state0 ns)] = some (.rt (.dat (.bool true)), Γ', M')) : PySem.Challenge.rw_drawnalike_k02_whole_flows_and_bars.Holds := by
  w_on; o_law
  refine HandSHeadRun.head_any (r := OpenLaw.row PySem.Challenge.rw_drawnalike_k02_whole_flows_and_bars) (q := view (OpenLaw.row PySem.Challenge.rw_drawnalike_k02_whole_flows_and_bars).prog [26]) (H := K02.hk) (ob := K02.ob) (M := 4000) (loose := K02.loose) (d := HandSHeadRun.topDef (OpenLaw.row PySem.Challenge.rw_drawnalike_k02_whole_flows_and_bars).prog 26) (kwd := []) K02.ob_eq
    (by kernel_rfl) (fun s => by kernel_rfl) K02.run (by kernel_rfl) (by kernel_rfl) (by kernel_rfl) (by rfl) (by first | assumption | decide +kernel) (by decide +kernel) ⟨rfl, rfl, rfl, rfl, rfl, by decide +kernel⟩ ?hw ?hc
  case hw => w_witness2
  case hc =>
    refine L2.walk_ofE (l := PySem.Challenge.rw_drawnalike_k02_whole_flows_and_bars) (n := 63) (k := 35) (x := "script") (CX := L2.CX0) rfl (by decide) (by kernel_rfl) ⟨rfl, by decide, by decide⟩ ?F (fun _ _ _ _ z => z)
    intro w mg fa h Y G hmg0
    obtain ⟨K, KX, c⟩ := Y
    have hmg : mg ("law" : PySem.Str) = some (.ref fa) := by
      have e : (HandSHeadRun.topDef (OpenLaw.row PySem.Challenge.rw_drawnalike_k02_whole_flows_and_bars).prog 26).name = ("law" : PySem.Str) := by kernel_rfl
      rw [← e]
      exact hmg0
    have gs := K02.gs_of KX G c
    obtain ⟨f, fd, hf, F, _⟩ := K02.ok_law (P := (PySem.Challenge.rw_drawnalike_k02_whole_flows_and_bars).prog) (w := w) (base := h) gs hlaw
    have e := hmg.symm.trans hf
    cases e
    have b := L2.FunD.bindsA (ps := ["script"]) F fun _ _ _ _ _ _ us hl => match us, hl with | [_], _ => rfl
    refine ⟨K, fd, EL.spLaw K, KX, fun s v => b s [v] rfl, fun H a ns hl _ hS => ⟨a, ns, rfl, hl, hS, fun _ => rfl⟩, fun base _ _ => ?_⟩
    obtain ⟨f2, fd2, hf2, F2, ok⟩ := K02.ok_law (P := (PySem.Challenge.rw_drawnalike_k02_whole_flows_and_bars).prog) (w := w) (base := base) gs hlaw
    have e := hmg.symm.trans hf2
    cases e
    have e : fd2 = fd := K02.fd_same F2 F
    subst e
    exact ok
namespace K02
open PySem PySem.Spec PyProof.Rows L2 EL

theorem k_draw {d : D} {m : Int} (hs : IsSt d) (h : 0 < m) (h2 : m ≤ 1000000000000000000000000000000) : ∃ v d', g__law_draw [.ptr 0, .dat (.int m)] [.fl d] = some (.ok (.dat (.int v)), [.fl d']) ∧ 0 ≤ v ∧ v < m ∧ IsSt d' := draw_spec hs h h2
theorem k_one {d : D} {xs : List D} (hs : IsSt d) (h0 : xs ≠ []) (hl : xs.length ≤ 10000) : ∃ x d', g__law_one_of [.ptr 0, .dat (.list xs)] [.fl d] = some (.ok (.dat x), [.fl d']) ∧ x ∈ xs ∧ IsSt d' := one_of_spec hs h0 hl
theorem says_spec (a b : Bool) : g__law_says [.dat (.bool a), .dat (.bool b)] [] = some (.ok (.dat (.bool (a == b))), []) := by
  cases a <;> cases b <;> simp [g__law_says]
theorem is_integer_spec {d : D} (h : d.plain = true) : g_is_integer [.dat d] [] = some (.ok (.dat (.bool (EL.intD d))), []) := by
  cases d <;> first | (simp [PyData.plain] at h; done) | simp [g_is_integer, oIsi, isi, EL.intD]
theorem is_tuple3_spec {d : D} (h : d.plain = true) : g_is_tuple [.dat d, .dat (.int 3)] [] = some (.ok (.dat (.bool (is3 d))), []) := by
  cases d with
  | tuple xs =>
    have hl : is3 (.tuple xs) = decide (xs.length = 3) := by
      match xs with
      | [] => rfl
      | [_] => rfl
      | [_, _] => rfl
      | [_, _, _] => rfl
      | _ :: _ :: _ :: _ :: _ => simp [is3]
    have h2 : ((xs.length : Int) == 3) = decide (xs.length = 3) := by
      rw [Bool.eq_iff_iff]
      simp
      omega
    simp [g_is_tuple, oIsi, isi, hl, h2]
  | dict kvs => simp [PyData.plain] at h
  | _ => simp [g_is_tuple, oIsi, isi, is3]
theorem is_row_spec {d : D} {m o : Int} (h : d.plain = true) : g_is_row [.dat d, .dat (.int m), .dat (.int o)] [] = some (.ok (.dat (.bool (rowOk m o d))), []) := by
  cases h3 : is3 d with
  | false =>
    have : rowOk m o d = false := by
      unfold rowOk
      split
      · cases h3
      · rfl
    simp [g_is_row, is_tuple3_spec h, h3, this]
  | true =>
    unfold is3 at h3
    split at h3
    case h_2 => cases h3
    rename_i x y z
    have hp := h
    rw [PyData.plain] at hp
    have hp := plainAll_mem hp
    have hc : dComp (iSeq (dVar 0)) (cStep (gNm 3) tYes_ [3] (dCall g_is_integer (dCons (dVar 3) dNil))) false [some (.dat (.tuple [x, y, z])), some (.dat (.int m)), some (.dat (.int o)), none] [] = some (.dat (.list [.bool (EL.intD x), .bool (EL.intD y), .bool (EL.intD z)]), []) :=
      dComp_all (m := false) (fi := iSeq (dVar 0)) (tg := gNm 3) (own := [3]) (te := dCall g_is_integer (dCons (dVar 3) dNil)) (Γ := [some (.dat (.tuple [x, y, z])), some (.dat (.int m)), some (.dat (.int o)), none]) (M0 := []) (M := []) (ds := [x, y, z]) (fun d => .bool (EL.intD d)) (by simp) (by simp [lim_e]) fun d hd => ⟨[some (.dat (.tuple [x, y, z])), some (.dat (.int m)), some (.dat (.int o)), some (.dat d)], rfl, by simp [is_integer_spec (hp d hd)]⟩
    have hx : ∀ (a b c : D), atI [a, b, c] 0 = some a ∧ atI [a, b, c] 1 = some b ∧ atI [a, b, c] 2 = some c := fun a b c => ⟨rfl, rfl, rfl⟩
    simp [g_is_row, is_tuple3_spec h, is3, hc, bAll, blsD, hx, -atI_nn]
    cases x <;> cases y <;> cases z <;> simp [EL.intD, rowOk]
    rename_i a b c _
    by_cases h1 : 0 ≤ a <;> by_cases h2 : a < m <;> by_cases h3 : 0 ≤ b <;> by_cases h4 : b < o <;> by_cases h5 : 0 < c <;> simp [h1, h2, h3, h4, h5]
theorem mul_list {x : D} {n : Nat} (h : n ≤ 1000) : oMul (.list [x]) (.int n) = some (.new (.list (List.replicate n x))) := by
  have hz : (List.replicate n [x]).flatten = List.replicate n x := by
    induction n with
    | zero => rfl
    | succ n ih => rw [List.replicate_succ, List.flatten_cons, ih (by omega), List.replicate_succ]; rfl
  show (if (decide (-1000000 ≤ (n : Int)) && decide ((n : Int) ≤ 1000000) && decide ([x].length * (n : Int).toNat ≤ LIM)) = true then some (OR.new (.list (List.replicate (n : Int).toNat [x]).flatten)) else none) = _
  rw [if_pos, Int.toNat_natCast, hz]
  simp [lim_e]
  omega
theorem sums_by_spec {rs : List EL.Row} {p n : Nat} (hp : p < 2) (hn : n ≤ 100) (hr : ∀ t ∈ rs, ∃ k : Nat, k < n ∧ plc p t = (k : Int)) :
    g_sums_by [.dat (.tuple (rs.map rowD)), .dat (.int p), .dat (.int n)] [] = some (.ok (.dat (.list ((sums p rs n).map .int))), []) := by
  obtain ⟨Γ', M', e, hI⟩ := sFor_all (fi := iSeq (dVar 0)) (tg := gNm 4) (body := sAugSub oIAdd (dVar 3) (dIx (dVar 4) (dVar 1)) (dIx (dVar 4) (dC (.int 2))))
    (Γ := [some (.dat (.tuple (rs.map rowD))), some (.dat (.int p)), some (.dat (.int n)), some (.ptr 0), none]) (M := [.fl (.list ((sums p [] n).map .int))]) (M1 := [.fl (.list ((sums p [] n).map .int))]) (ds := rs.map rowD) (by simp)
    (fun i Γ M => (∃ x, Γ = [some (.dat (.tuple (rs.map rowD))), some (.dat (.int p)), some (.dat (.int n)), some (.ptr 0), x]) ∧ M = [.fl (.list ((sums p (rs.take i) n).map .int))]) ⟨⟨_, rfl⟩, rfl⟩ fun i d Γ M hd ⟨⟨x, hΓ⟩, hM⟩ => by
      subst hΓ hM
      rw [List.getElem?_map] at hd
      obtain ⟨t, ht, rfl⟩ := Option.map_eq_some_iff.mp hd
      obtain ⟨k, hk, hpk⟩ := hr t (List.mem_of_getElem? ht)
      refine ⟨_, _, _, rfl, ?_, ⟨some (.dat (rowD t)), rfl⟩, rfl⟩
      have h1 : rs.take (i + 1) = rs.take i ++ [t] := by rw [List.take_add_one, ht]; rfl
      rw [h1, sums_snoc p _ t n k hk hpk]
      have hg : (sums p (rs.take i) n)[k]? = some (sumAt p (rs.take i) k) := by simp [sums, hk]
      have hl : (sums p (rs.take i) n).length = n := by simp [sums]
      have hp' : p = 0 ∨ p = 1 := by omega
      rcases hp' with rfl | rfl
      · have hpk : t.1 = (k : Int) := hpk
        simp [rowD, hpk, hg, hl, hk, List.map_set]
        simp [sums]
      · have hpk : t.2.1 = (k : Int) := hpk
        simp [rowD, hpk, hg, hl, hk, List.map_set]
        simp [sums]
  obtain ⟨⟨x, hΓ⟩, hM⟩ := hI
  have hz : List.replicate n (PyData.int 0) = (sums p [] n).map .int := by
    have : (sums p [] n) = List.replicate n 0 := by
      unfold sums
      rw [List.eq_replicate_iff]
      simp [sumAt]
    rw [this]
    simp
  have hm := mul_list (x := .int 0) (n := n) (by omega)
  rw [hz] at hm
  simp [g_sums_by, lim_e, hm, e, hΓ, hM]
theorem are_even_spec {ss : List Int} (h0 : ss ≠ []) (hl : ss.length ≤ LIM) : g_are_even [.dat (.list (ss.map .int))] [] = some (.ok (.dat (.bool (evenB ss))), []) := by
  cases ss with
  | nil => exact absurd rfl h0
  | cons s r =>
    have hat : atI ((s :: r).map PyData.int) 0 = some (.int s) := EL.atI_nat (n := 0) rfl
    have hc : dComp (iSeq (dVar 0)) (cStep (gNm 1) tYes_ [1] (dBin oEq (dVar 1) (dIx (dVar 0) (dC (.int 0))))) false [some (.dat (.list ((s :: r).map .int))), none] [] = some (.dat (.list (((s :: r).map (· == s)).map .bool)), []) := by
      have := dComp_all (m := false) (fi := iSeq (dVar 0)) (tg := gNm 1) (own := [1]) (te := dBin oEq (dVar 1) (dIx (dVar 0) (dC (.int 0)))) (Γ := [some (.dat (.list ((s :: r).map .int))), none]) (M0 := []) (M := []) (ds := (s :: r).map .int)
        (fun d => match d with | .int i => .bool (i == s) | _ => .none) (by simp) (by simpa using hl) fun d hd => by
          obtain ⟨i, _, rfl⟩ := List.mem_map.mp hd
          refine ⟨[some (.dat (.list ((s :: r).map .int))), some (.dat (.int i))], rfl, ?_⟩
          generalize (s :: r).map PyData.int = L at *
          simp [hat, -atI_nn]
      rw [this, List.map_map, List.map_map]
      rfl
    have ha : ((s :: r).map (· == s)).all id = r.all (· == s) := by
      rw [List.map_cons, List.all_cons, List.all_map]
      simp
    have he : evenB (s :: r) = (decide (0 < s) && ((s :: r).map (· == s)).all id) := by rw [ha]; rfl
    rw [he]
    generalize (s :: r).map (· == s) = bs at hc
    generalize (s :: r).map PyData.int = L at *
    by_cases hs : 0 < s
    · simp [g_are_even, hs, hc, hat, -atI_nn]
    · simp [g_are_even, hs, hat, -atI_nn]
theorem is_tie_spec {d : D} {m o : Nat} (h : d.plain = true) (hL : ∀ ds, d = .tuple ds → ds.length ≤ 5000) (hm : 0 < m) (hm2 : m ≤ 100) (ho : 0 < o) (ho2 : o ≤ 100) : g_is_tie [.dat d, .dat (.int m), .dat (.int o)] [] = some (.ok (.dat (.bool (tieB m o d))), []) := by
  cases d with
  | dict kvs => simp [PyData.plain] at h
  | tuple ds =>
    have hl := hL ds rfl
    have hl2 : ds.length ≤ LIM := by rw [lim_e]; omega
    have hp := plainAll_mem (show PyData.plainAll ds = true by rw [PyData.plain] at h; exact h)
    cases hn : ds.isEmpty with
    | true => simp [g_is_tie, oIsi, isi, oEq_nil h, hn, tieB, lim_e]
    | false =>
      have hc : dComp (iSeq (dVar 0)) (cStep (gNm 3) tYes_ [3] (dCall g_is_row (dCons (dVar 3) (dCons (dVar 1) (dCons (dVar 2) dNil))))) false [some (.dat (.tuple ds)), some (.dat (.int m)), some (.dat (.int o)), none, none, none] [] = some (.dat (.list ((ds.map (rowOk m o)).map .bool)), []) := by
        have := dComp_all (m := false) (fi := iSeq (dVar 0)) (tg := gNm 3) (own := [3]) (te := dCall g_is_row (dCons (dVar 3) (dCons (dVar 1) (dCons (dVar 2) dNil)))) (Γ := [some (.dat (.tuple ds)), some (.dat (.int m)), some (.dat (.int o)), none, none, none]) (M0 := []) (M := []) (ds := ds)
          (fun d => .bool (rowOk m o d)) (by simp) hl2 fun d hd => ⟨[some (.dat (.tuple ds)), some (.dat (.int m)), some (.dat (.int o)), some (.dat d), none, none], rfl, by simp [is_row_spec (hp d hd)]⟩
        rw [this, List.map_map]
        rfl
      have ha : (ds.map (rowOk m o)).all id = ds.all (rowOk m o) := by
        rw [List.all_map]; rfl
      generalize ds.map (rowOk m o) = bs at hc ha
      cases hok : ds.all (rowOk m o) with
      | false =>
        rw [hok] at ha
        simp [g_is_tie, oIsi, isi, oEq_nil h, hn, tieB, lim_e, hc, ha, hok]
      | true =>
        rw [hok] at ha
        obtain ⟨rs, rfl, hr⟩ := rows_of (List.all_eq_true.mp hok)
        have hz : dComp (iZip (dCons (dVar 0) (dCons (dSl (dVar 0) (oS (dC (.int 1))) oN) dNil))) (cStep (gTp [(gNm 4), (gNm 5)]) tYes_ [4, 5] (dBin oLt (dSl (dVar 4) oN (oS (dC (.int 2)))) (dSl (dVar 5) oN (oS (dC (.int 2)))))) false [some (.dat (.tuple (rs.map rowD))), some (.dat (.int m)), some (.dat (.int o)), none, none, none] [] = some (.dat (.list (((rs.zip (rs.drop 1)).map fun p => lt2 p.1 p.2).map .bool)), []) := by
          have := dComp_all (m := false) (fi := iZip (dCons (dVar 0) (dCons (dSl (dVar 0) (oS (dC (.int 1))) oN) dNil))) (tg := gTp [(gNm 4), (gNm 5)]) (own := [4, 5]) (te := dBin oLt (dSl (dVar 4) oN (oS (dC (.int 2)))) (dSl (dVar 5) oN (oS (dC (.int 2))))) (Γ := [some (.dat (.tuple (rs.map rowD))), some (.dat (.int m)), some (.dat (.int o)), none, none, none]) (M0 := []) (M := [])
            (ds := ((rs.map rowD).zip ((rs.map rowD).drop 1)).map fun p => .tuple [p.1, p.2]) (fun d => match d with | .tuple [x, y] => .bool (lt2 (unrow x) (unrow y)) | _ => .none) (by simp [cut_from, zpw_tup]) (by simp [lim_e] at hl ⊢; omega) fun d hd => by
              obtain ⟨⟨x, y⟩, hxy, rfl⟩ := List.mem_map.mp hd
              obtain ⟨h1, h2⟩ := List.of_mem_zip hxy
              obtain ⟨s, _, rfl⟩ := List.mem_map.mp h1
              obtain ⟨t, _, rfl⟩ := List.mem_map.mp (List.mem_of_mem_drop h2)
              exact ⟨[some (.dat (.tuple (rs.map rowD))), some (.dat (.int m)), some (.dat (.int o)), none, some (.dat (rowD s)), some (.dat (rowD t))], rfl, by simp [rowD, cut_to, lt2, unrow]; rw [Bool.eq_iff_iff]; simp; exact decide_eq_true_iff.symm⟩
          rw [this, List.map_map, List.map_map, finD_f]
          congr 4
          rw [← List.map_drop, List.zip_map, List.map_map]
          rfl
        have hza : ((rs.zip (rs.drop 1)).map fun p => lt2 p.1 p.2).all id = asc rs := by
          rw [List.all_map]; rfl
        generalize (rs.zip (rs.drop 1)).map (fun p => lt2 p.1 p.2) = zs at hz hza
        have e1 := sums_by_spec (rs := rs) (p := 0) (n := m) (by omega) hm2 fun t ht => (inR_plc (hr t ht)).1
        have e2 := sums_by_spec (rs := rs) (p := 1) (n := o) (by omega) ho2 fun t ht => (inR_plc (hr t ht)).2
        have e3 := are_even_spec (ss := sums 0 rs m) (sums_ne hm) (by rw [sums_len]; simp [lim_e]; omega)
        have e4 := are_even_spec (ss := sums 1 rs o) (sums_ne ho) (by rw [sums_len]; simp [lim_e]; omega)
        have ht : tieB m o (.tuple (rs.map rowD)) = tieR m o rs := by
          unfold tieB
          simp only [hn, hok, unrow_rows]
          simp
        rw [ht]
        have hnil := oEq_nil h
        rw [hn] at hnil
        unfold tieR
        generalize (sums 0 rs m).map PyData.int = q0 at *
        generalize (sums 1 rs o).map PyData.int = q1 at *
        generalize rs.map rowD = RR at *
        cases h5 : asc rs with
        | false =>
          rw [h5] at hza
          simp [g_is_tie, oIsi, isi, hnil, lim_e, hc, ha, hz, hza]
        | true =>
          rw [h5] at hza
          cases h6 : evenB (sums 0 rs m) <;> cases h7 : evenB (sums 1 rs o) <;> simp_all [g_is_tie, oIsi, isi, lim_e]
  | _ => simp [g_is_tie, oIsi, isi, tieB]
theorem both_tie {d : D} {m o : Nat} (h : d.plain = true) (hL : ∀ ds, d = .tuple ds → ds.length ≤ 5000) (hm : 0 < m) (hm2 : m ≤ 100) (ho : 0 < o) (ho2 : o ≤ 100) :
    g__law_is_tie [.dat d, .dat (.int m), .dat (.int o)] [] = some (.ok (.dat (.bool (tieB m o d))), []) := law_is_tie_spec h hL hm hm2 ho ho2
end K02
namespace K02
open PySem PySem.Spec PyProof.Rows L2 EL

abbrev psD (P : List Pr) : D := .tuple (P.map kd)
def inRng (n : Nat) : D → Bool
  | .int i => decide (0 ≤ i) && decide (i < n)
  | _ => false
def unI : D → Int
  | .int i => i
  | _ => 0
/-- what the left places lead to -/
def ledF (S : List Int) (acc : List Int) (p : Pr) : List Int := if p.1 ∈ S then putI acc p.2 else acc
def ledL (P : List Pr) (S : List Int) : List Int := P.foldl (ledF S) []
def ascI (S : List Int) : Bool := (S.zip (S.drop 1)).all fun p => decide (p.1 < p.2)
def barI (n m : Nat) (P : List Pr) (S : List Int) : Bool := decide ((ledL P S).length * n < S.length * m)
def barB (n m : Nat) (P : List Pr) : D → Bool
  | .tuple ds => ds.all (inRng n) && (ascI (ds.map unI) && barI n m P (ds.map unI))
  | _ => false
theorem ints_of {n : Nat} : ∀ {ds : List D}, ds.all (inRng n) = true → ∃ S : List Int, ds = S.map .int ∧ ∀ i ∈ S, 0 ≤ i ∧ i < n
  | [], _ => ⟨[], rfl, fun _ h => nomatch h⟩
  | d :: ds, h => by
    rw [List.all_cons, Bool.and_eq_true] at h
    obtain ⟨S, rfl, hS⟩ := ints_of h.2
    unfold inRng at h
    split at h
    · rename_i i
      have h1 := h.1
      rw [Bool.and_eq_true, decide_eq_true_iff, decide_eq_true_iff] at h1
      refine ⟨i :: S, rfl, fun j hj => ?_⟩
      rcases List.mem_cons.mp hj with rfl | hj
      · exact h1
      · exact hS j hj
    · exact absurd h.1 (by simp)
theorem unI_map (S : List Int) : (S.map PyData.int).map unI = S := by
  rw [List.map_map]
  exact (List.map_congr_left fun t _ => rfl).trans (List.map_id S)
theorem putI_le (acc : List Int) (k : Int) : (putI acc k).length ≤ acc.length + 1 := by
  rw [putI_len]
  split <;> omega
theorem ledF_le (S acc : List Int) (p : Pr) : (ledF S acc p).length ≤ acc.length + 1 := by
  unfold ledF
  split
  · exact putI_le acc p.2
  · omega
theorem ledL_le (P : List Pr) (S : List Int) : (ledL P S).length ≤ P.length := by
  unfold ledL
  have : ∀ (P : List Pr) (acc : List Int), (P.foldl (ledF S) acc).length ≤ acc.length + P.length := by
    intro P
    induction P with
    | nil => intro acc; exact Nat.le_refl _
    | cons p r ih =>
      intro acc
      have h1 := ih (ledF S acc p)
      have h2 := ledF_le S acc p
      rw [List.foldl_cons, List.length_cons]
      omega
  have := this P []
  simpa using this
theorem ledL_take {P : List Pr} {S : List Int} {i : Nat} {p : Pr} (h : P[i]? = some p) : ledL (P.take (i + 1)) S = ledF S (ledL (P.take i) S) p := by
  rw [List.take_add_one, h]
  unfold ledL
  rw [List.foldl_append]; rfl
theorem in_ints (i : Int) (S : List Int) : oInB (.int i) (.tuple (S.map .int)) = some (decide (i ∈ S)) := by
  have hp : PyData.plainAll (S.map PyData.int) = true := by
    rw [plainAll_iff]
    intro d hd
    obtain ⟨p, _, rfl⟩ := List.mem_map.mp hd
    rfl
  have ho : okIn (.int i) (S.map .int) = true := by
    unfold okIn
    rw [hp, decide_eq_true (Nat.le_trans (Nat.min_le_right _ _) (show PyData.depth (.int i) ≤ 60 by simp [PyData.depth]))]
    rfl
  have hi : inD (.int i) (S.map .int) = decide (i ∈ S) := by
    unfold inD
    rw [Bool.eq_iff_iff, List.any_eq_true, decide_eq_true_iff]
    constructor
    · rintro ⟨y, hy, h⟩
      obtain ⟨q, hq, rfl⟩ := List.mem_map.mp hy
      have : q = i := by simpa [PyData.eqv] using h
      rw [← this]
      exact hq
    · intro h
      exact ⟨.int i, List.mem_map.mpr ⟨i, h, rfl⟩, by simp [PyData.eqv]⟩
  show (if okIn (.int i) (S.map .int) = true then some (inD (.int i) (S.map .int)) else none) = _
  rw [if_pos ho, hi]
theorem in_intsT (i : Int) (S : List Int) : oIn (.int i) (.tuple (S.map .int)) = some (.dat (.bool (decide (i ∈ S)))) := by
  unfold oIn
  rw [in_ints]; rfl
theorem in_intsL (i : Int) (S : List Int) : oNotIn (.int i) (.list (S.map .int)) = some (.dat (.bool (!decide (i ∈ S)))) := by
  unfold oNotIn
  have : oInB (.int i) (.list (S.map .int)) = oInB (.int i) (.tuple (S.map .int)) := rfl
  rw [this, in_ints]; rfl
theorem itS_ind {ds : List D} {step : SSt} {M : Sto} (Inv : Nat → List Int → Prop) (hs : ∀ i d acc, ds[i]? = some d → Inv i acc → ∃ acc', step (.dat d) M acc = some (acc', M) ∧ Inv (i + 1) acc') :
    ∀ (k i : Nat) (acc : List Int), i + k = ds.length → Inv i acc → ∃ acc', itS (itD ds) step (k + 1) i M acc = some (acc', M) ∧ Inv ds.length acc'
  | 0, i, acc, hi, h => by
    refine ⟨acc, ?_, ?_⟩
    · unfold itS itD
      rw [List.getElem?_eq_none (by omega)]
      rfl
    · have : i = ds.length := by omega
      rw [← this]; exact h
  | k + 1, i, acc, hi, h => by
    have hd : ds[i]? = some ds[i] := List.getElem?_eq_getElem (by omega)
    obtain ⟨acc1, e1, h1⟩ := hs i _ acc hd h
    obtain ⟨acc2, e2, h2⟩ := itS_ind Inv hs k (i + 1) acc1 (by omega) h1
    refine ⟨acc2, ?_, h2⟩
    unfold itS
    simp only [itD, hd, Option.map_some, e1, Option.bind_some]
    exact e2
theorem set_spec {P : List Pr} {S : List Int} {A B : Option SV} {x4 x5 x6 : Option SV} {M : Sto} (hl : P.length ≤ 500) :
    dCompS (iSeq (dVar 2)) (sStep (gTp [(gNm 5), (gNm 6)]) (tVal (dBin oIn (dVar 5) (dVar 3))) [5, 6] (dVar 6)) [A, B, some (.dat (psD P)), some (.dat (.tuple (S.map .int))), x4, x5, x6] M = some (.ptr M.length, M ++ [.st (ledL P S)]) := by
  obtain ⟨acc', e, he⟩ := itS_ind (ds := P.map kd) (step := sStep (gTp [(gNm 5), (gNm 6)]) (tVal (dBin oIn (dVar 5) (dVar 3))) [5, 6] (dVar 6) [A, B, some (.dat (psD P)), some (.dat (.tuple (S.map .int))), x4, x5, x6]) (M := M) (fun i acc => acc = ledL (P.take i) S) (fun i d acc hd ha => by
    subst ha
    rw [List.getElem?_map] at hd
    obtain ⟨p, hp, rfl⟩ := Option.map_eq_some_iff.mp hd
    have hi := (List.getElem?_eq_some_iff.mp hp).1
    have hl2 := ledL_le (P.take i) S
    rw [List.length_take] at hl2
    refine ⟨ledL (P.take (i + 1)) S, ?_, rfl⟩
    rw [ledL_take hp]
    have e1 : (gTp [(gNm 5), (gNm 6)]) (.dat (kd p)) M (wipeG [A, B, some (.dat (psD P)), some (.dat (.tuple (S.map .int))), x4, x5, x6] [5, 6]) = some [A, B, some (.dat (psD P)), some (.dat (.tuple (S.map .int))), x4, some (.dat (.int p.1)), some (.dat (.int p.2))] := rfl
    have hin := in_intsT p.1 S
    unfold sStep
    rw [e1, Option.bind_some]
    generalize PyData.tuple (S.map .int) = T at *
    generalize psD P = PD at *
    unfold ledF
    by_cases h : p.1 ∈ S
    · rw [decide_eq_true h] at hin
      rw [if_pos h]
      simp [hin]
      omega
    · rw [decide_eq_false h] at hin
      rw [if_neg h]
      simp [hin]) P.length 0 [] (by simp) rfl
  rw [List.length_map, List.take_length] at he
  subst he
  have hi : iSeq (dVar 2) [A, B, some (.dat (psD P)), some (.dat (.tuple (S.map .int))), x4, x5, x6] M = some ((itD (P.map kd), (P.map kd).length), M) := rfl
  unfold dCompS
  rw [hi, Option.bind_some]
  simp only [List.length_map, e]
  rfl
theorem dComp_xs {α : Type} {fi : DI} {tg : DG} {own : List Nat} {Γ : Ga} {te : DE} {m : Bool} {M0 M : Sto} (xs : List α) (f g : α → D) (hi : fi Γ M0 = some ((itD (xs.map f), (xs.map f).length), M)) (hL : xs.length ≤ LIM)
    (step : ∀ x ∈ xs, ∃ Γ1, tg (.dat (f x)) M (wipeG Γ own) = some Γ1 ∧ te Γ1 M = some (.dat (g x), M)) : dComp fi (cStep tg tYes_ own te) m Γ M0 = some (finD m (xs.map g) M) := by
  obtain ⟨M', acc, e, rfl, ha⟩ := cpw_ind (ds := xs.map f) (step := cStep tg tYes_ own te Γ) (m := m) (M := M) (fun i M' acc => M' = M ∧ acc = (xs.take i).map g) ⟨rfl, rfl⟩ fun i d M' acc hd ⟨hM, ha⟩ => by
    subst hM ha
    rw [List.getElem?_map] at hd
    obtain ⟨x, hx, rfl⟩ := Option.map_eq_some_iff.mp hd
    have hi := (List.getElem?_eq_some_iff.mp hx).1
    obtain ⟨Γ1, e1, e2⟩ := step x (List.mem_of_getElem? hx)
    refine ⟨(xs.take i).map g ++ [g x], M', cStep_t e1 rfl e2 (by rw [List.length_map, List.length_take]; omega), rfl, ?_⟩
    rw [List.take_add_one, hx, List.map_append]; rfl
  rw [List.length_map, List.take_length] at ha
  rw [dComp_e, hi, ← ha]
  exact e
theorem zip_asc {S : List Int} {A B C : Option SV} {x4 : Option SV} {M : Sto} (hl : S.length ≤ 5000) :
    dComp (iZip (dCons (dVar 3) (dCons (dSl (dVar 3) (oS (dC (.int 1))) oN) dNil))) (cStep (gTp [(gNm 5), (gNm 6)]) tYes_ [5, 6] (dBin oLt (dVar 5) (dVar 6))) false [A, B, C, some (.dat (.tuple (S.map .int))), x4, none, none] M = some (.dat (.list (((S.zip (S.drop 1)).map fun p => decide (p.1 < p.2)).map .bool)), M) := by
  have hz : ((S.map PyData.int).zip ((S.map PyData.int).drop 1)).map (fun p => PyData.tuple [p.1, p.2]) = (S.zip (S.drop 1)).map kd := by
    rw [← List.map_drop, List.zip_map, List.map_map]; rfl
  have hi : iZip (dCons (dVar 3) (dCons (dSl (dVar 3) (oS (dC (.int 1))) oN) dNil)) [A, B, C, some (.dat (.tuple (S.map .int))), x4, none, none] M = some ((itD ((S.zip (S.drop 1)).map kd), ((S.zip (S.drop 1)).map kd).length), M) := by
    rw [← hz]
    generalize S.map PyData.int = L
    simp [cut_from]
  have e := dComp_xs (m := false) (tg := gTp [(gNm 5), (gNm 6)]) (own := [5, 6]) (te := dBin oLt (dVar 5) (dVar 6)) (S.zip (S.drop 1)) kd (fun p => .bool (decide (p.1 < p.2))) hi (by rw [lim_e, List.length_zip]; omega) fun p _ => ⟨[A, B, C, some (.dat (.tuple (S.map .int))), x4, some (.dat (.int p.1)), some (.dat (.int p.2))], rfl, by
    generalize PyData.tuple (S.map .int) = T
    simp⟩
  rw [e, finD_f, List.map_map]
  rfl
theorem rng_comp {n : Nat} {ds : List D} {A B : Option SV} {x4 x6 : Option SV} {M : Sto} (hp : ∀ d ∈ ds, d.plain = true) (hl : ds.length ≤ 5000) :
    dComp (iSeq (dVar 3)) (cStep (gNm 5) tYes_ [5] (dAnd (dCall g_is_integer (dCons (dVar 5) dNil)) (dChain oLe oLt (dC (.int 0)) (dVar 5) (dVar 0)))) false [some (.dat (.int n)), A, B, some (.dat (.tuple ds)), x4, none, x6] M = some (.dat (.list ((ds.map (inRng n)).map .bool)), M) := by
  have e := dComp_xs (m := false) (tg := gNm 5) (own := [5]) (te := dAnd (dCall g_is_integer (dCons (dVar 5) dNil)) (dChain oLe oLt (dC (.int 0)) (dVar 5) (dVar 0))) (fi := iSeq (dVar 3)) (Γ := [some (.dat (.int n)), A, B, some (.dat (.tuple ds)), x4, none, x6]) (M0 := M) (M := M) ds id (fun d => .bool (inRng n d)) (by simp) (by rw [lim_e]; omega) fun d hd => ⟨[some (.dat (.int n)), A, B, some (.dat (.tuple ds)), x4, some (.dat d), x6], rfl, by
    have h1 := is_integer_spec (hp d hd)
    cases d with
    | int i =>
      unfold inRng
      by_cases h0 : 0 ≤ i <;> simp [h1, EL.intD, h0]
    | _ => simp [h1, EL.intD, inRng]⟩
  rw [e, finD_f, List.map_map]
  rfl
theorem lbl_all {ds : List D} {n : Nat} : (ds.map (inRng n)).all id = ds.all (inRng n) := by
  rw [List.all_map]; rfl
theorem mul_nn {a b : Nat} (h : b ≤ 10000) : oMul (.int (a : Int)) (.int (b : Int)) = some (.dat (.int ((a * b : Nat) : Int))) := by
  rw [oMul_i (okMul_r (by omega) (by omega))]
  push_cast
  rfl
theorem dLenS_at {i n : Nat} {Γ : Ga} {M : Sto} {L : List Int} (h : dVar i Γ M = some (.ptr n, M)) (hM : M[n]? = some (.st L)) (hl : L.length < 1000) : dLenS (dVar i) Γ M = some (.dat (.int (L.length : Nat)), M) := by
  unfold dLenS
  rw [h, Option.bind_some]
  simp only [hM]
  rw [if_pos hl]
theorem dLen_at {i : Nat} {Γ : Ga} {M : Sto} {d : D} {n : Int} (h : dVar i Γ M = some (.dat d, M)) (hd : lenD d = some n) : dLen (dVar i) Γ M = some (.dat (.int n), M) := by
  rw [dLen_e, h, Option.bind_some]
  show (lenD d).map _ = _
  rw [hd]; rfl
theorem ret_gt {fa fb fc fd : DE} {Γ : Ga} {M : Sto} {a b c d X Y : D} {r : Bool} (h1 : fa Γ M = some (.dat a, M)) (h2 : fb Γ M = some (.dat b, M)) (m1 : oMul a b = some (.dat X)) (h3 : fc Γ M = some (.dat c, M)) (h4 : fd Γ M = some (.dat d, M)) (m2 : oMul c d = some (.dat Y)) (h : oGt X Y = some (.dat (.bool r))) :
    sRet (dBin oGt (dBin oMul fa fb) (dBin oMul fc fd)) Γ M = some (.rt (.dat (.bool r)), Γ, M) := by
  simp [h1, h2, m1, h3, h4, m2, h]
theorem bar_no {N O PD : D} {ds : List D} {bs : List Bool} (hc : dComp (iSeq (dVar 3)) (cStep (gNm 5) tYes_ [5] (dAnd (dCall g_is_integer (dCons (dVar 5) dNil)) (dChain oLe oLt (dC (.int 0)) (dVar 5) (dVar 0)))) false [some (.dat N), some (.dat O), some (.dat PD), some (.dat (.tuple ds)), none, none, none] [] = some (.dat (.list (bs.map .bool)), [])) (ha : bs.all id = false) :
    g_shows_bar [.dat N, .dat O, .dat PD, .dat (.tuple ds)] [] = some (.ok (.dat (.bool false)), []) := by
  simp [g_shows_bar, oIsi, isi, hc, ha]
theorem bar_chain {N O sl X Y : Int} {PD : D} {ds : List D} {bs zs : List Bool} {L : List Int} {b r : Bool} (hc : dComp (iSeq (dVar 3)) (cStep (gNm 5) tYes_ [5] (dAnd (dCall g_is_integer (dCons (dVar 5) dNil)) (dChain oLe oLt (dC (.int 0)) (dVar 5) (dVar 0)))) false [some (.dat (.int N)), some (.dat (.int O)), some (.dat PD), some (.dat (.tuple ds)), none, none, none] [] = some (.dat (.list (bs.map .bool)), [])) (ha : bs.all id = true)
    (hz : dComp (iZip (dCons (dVar 3) (dCons (dSl (dVar 3) (oS (dC (.int 1))) oN) dNil))) (cStep (gTp [(gNm 5), (gNm 6)]) tYes_ [5, 6] (dBin oLt (dVar 5) (dVar 6))) false [some (.dat (.int N)), some (.dat (.int O)), some (.dat PD), some (.dat (.tuple ds)), none, none, none] [] = some (.dat (.list (zs.map .bool)), [])) (hza : zs.all id = b)
    (hs : dCompS (iSeq (dVar 2)) (sStep (gTp [(gNm 5), (gNm 6)]) (tVal (dBin oIn (dVar 5) (dVar 3))) [5, 6] (dVar 6)) [some (.dat (.int N)), some (.dat (.int O)), some (.dat PD), some (.dat (.tuple ds)), none, none, none] [] = some (.ptr 0, [.st L])) (hl : L.length < 1000) (hd : lenD (.tuple ds) = some sl)
    (m1 : oMul (.int sl) (.int O) = some (.dat (.int X))) (m2 : oMul (.int (L.length : Nat)) (.int N) = some (.dat (.int Y))) (hcmp : oGt (.int X) (.int Y) = some (.dat (.bool r))) :
    g_shows_bar [.dat (.int N), .dat (.int O), .dat PD, .dat (.tuple ds)] [] = some (.ok (.dat (.bool (b && r))), []) := by
  cases b with
  | false => simp [g_shows_bar, oIsi, isi, hc, ha, hz, hza]
  | true =>
    have hls := dLenS_at (i := 4) (n := 0) (Γ := [some (.dat (.int N)), some (.dat (.int O)), some (.dat PD), some (.dat (.tuple ds)), some (.ptr 0), none, none]) (M := [.st L]) rfl rfl hl
    unfold g_shows_bar
    refine fun_rt (Γ1 := [some (.dat (.int N)), some (.dat (.int O)), some (.dat PD), some (.dat (.tuple ds)), some (.ptr 0), none, none]) (M := [.st L]) ?_
    show (sSeq _ _) [some (SV.dat (.int N)), some (.dat (.int O)), some (.dat PD), some (.dat (.tuple ds)), none, none, none] [] = _
    rw [seq_nx (Γ1 := [some (SV.dat (.int N)), some (.dat (.int O)), some (.dat PD), some (.dat (.tuple ds)), none, none, none]) (M1 := []) (by simp [oIsi, isi, hc, ha])]
    rw [seq_nx (Γ1 := [some (SV.dat (.int N)), some (.dat (.int O)), some (.dat PD), some (.dat (.tuple ds)), none, none, none]) (M1 := []) (by simp [hz, hza])]
    rw [seq_nx (Γ1 := [some (SV.dat (.int N)), some (.dat (.int O)), some (.dat PD), some (.dat (.tuple ds)), some (.ptr 0), none, none]) (M1 := [.st L]) (by rw [sAsg_e, hs]; rfl)]
    exact ret_gt (dLen_at rfl hd) rfl m1 hls rfl m2 hcmp
theorem gt_nn {a b c d : Nat} : oGt (.int ((a * b : Nat) : Int)) (.int ((c * d : Nat) : Int)) = some (.dat (.bool (decide (c * d < a * b)))) := by
  have h9 : decide (((c * d : Nat) : Int) < ((a * b : Nat) : Int)) = decide (c * d < a * b) := decide_eq_decide.mpr Int.ofNat_lt
  rw [oGt_i, h9]
theorem shows_bar_spec {n m : Nat} {P : List Pr} {d : D} (h : d.plain = true) (hL : ∀ ds, d = .tuple ds → ds.length ≤ 5000) (hP : P.length ≤ 500) (hn : n ≤ 100) (hm : m ≤ 100) :
    g_shows_bar [.dat (.int n), .dat (.int m), .dat (psD P), .dat d] [] = some (.ok (.dat (.bool (barB n m P d))), []) := by
  cases d with
  | dict kvs => simp [PyData.plain] at h
  | tuple ds =>
    have hl := hL ds rfl
    have hp := plainAll_mem (show PyData.plainAll ds = true by rw [PyData.plain] at h; exact h)
    have hc := rng_comp (n := n) (A := some (.dat (.int m))) (B := some (.dat (psD P))) (x4 := none) (x6 := none) (M := []) hp hl
    have ha := lbl_all (ds := ds) (n := n)
    cases hok : ds.all (inRng n) with
    | false =>
      rw [hok] at ha
      rw [bar_no hc ha]
      have : barB n m P (.tuple ds) = false := by
        show (ds.all (inRng n) && _) = false
        rw [hok]; rfl
      rw [this]
    | true =>
      rw [hok] at ha
      obtain ⟨S, rfl, hS⟩ := ints_of hok
      have hl' : S.length ≤ 5000 := by simpa using hl
      have hz := zip_asc (S := S) (A := some (.dat (.int n))) (B := some (.dat (.int m))) (C := some (.dat (psD P))) (x4 := none) (M := []) hl'
      have hza : ((S.zip (S.drop 1)).map fun p => decide (p.1 < p.2)).all id = ascI S := by
        rw [List.all_map]; rfl
      have hs := set_spec (P := P) (S := S) (A := some (.dat (.int n))) (B := some (.dat (.int m))) (x4 := none) (x5 := none) (x6 := none) (M := []) hP
      have hll := ledL_le P S
      have e := bar_chain (sl := (S.length : Nat)) hc ha hz hza hs (by omega) (by rw [lenD_tup, List.length_map]) (mul_nn (by omega)) (mul_nn (by omega)) gt_nn
      rw [e]
      have : barB n m P (.tuple (S.map .int)) = (ascI S && barI n m P S) := by
        show ((S.map PyData.int).all (inRng n) && (ascI ((S.map PyData.int).map unI) && barI n m P ((S.map PyData.int).map unI))) = _
        rw [hok, unI_map, Bool.true_and]
      rw [this]; rfl
  | _ => simp [g_shows_bar, oIsi, isi, barB]
end K02
namespace K02
open PySem PySem.Spec PyProof.Rows L2 EL

abbrev LdB : DS := (sIf (tAnd_ (tVal (dBin oIn (dVar 3) (dVar 1))) (tVal (dBin oNotIn (dVar 4) (dVar 2)))) (sExpr (dMethW "list" cAppend (dVar 2) (dCons (dVar 4) dNil))) sNil)
theorem led_step {PD T : D} {S acc : List Int} {a b : Int} (hin : oIn (.int a) T = some (.dat (.bool (decide (a ∈ S))))) (hl : acc.length < 1000) :
    LdB [some (.dat PD), some (.dat T), some (.ptr 0), some (.dat (.int a)), some (.dat (.int b))] [.fl (.list (acc.map .int))] = some (.nx, [some (.dat PD), some (.dat T), some (.ptr 0), some (.dat (.int a)), some (.dat (.int b))], [.fl (.list ((ledF S acc (a, b)).map .int))]) := by
  have hni := in_intsL b acc
  have hl2 : (acc.map PyData.int).length < 10000000 := by rw [List.length_map]; omega
  unfold ledF putI
  by_cases h : a ∈ S
  · rw [decide_eq_true h] at hin
    rw [if_pos h]
    by_cases h2 : b ∈ acc
    · rw [decide_eq_true h2] at hni
      rw [if_pos h2]
      generalize acc.map PyData.int = L at *
      simp [hin, hni]
    · rw [decide_eq_false h2] at hni
      rw [if_neg h2, List.map_append]
      generalize acc.map PyData.int = L at *
      simp [hin, hni, hl2, lim_e]
  · rw [decide_eq_false h] at hin
    rw [if_neg h]
    simp [hin]
theorem fun_rtP {N : Nat} {body : DS} {x : Bool} {ss : List SV} {Γ1 : Ga} {M : Sto} {n : Nat} {d : D} (h : body (ss.map some ++ List.replicate (N - ss.length) none) [] = some (.rt (.ptr n), Γ1, M)) (hM : flD M[n]? = some d) : dFun N body x false ss [] = some (.ok (.dat d), []) := by
  rw [dFun_e, h, Option.bind_some]
  rw [fnOut_ptr, if_pos (show ([] : Sto).length ≤ n from Nat.zero_le n), hM]
  rfl
theorem law_led_spec {P : List Pr} {S : List Int} (hP : P.length ≤ 500) : g__law_led [.dat (psD P), .dat (.tuple (S.map .int))] [] = some (.ok (.dat (.list ((ledL P S).map .int))), []) := by
  have hin : ∀ a, oIn (.int a) (.tuple (S.map .int)) = some (.dat (.bool (decide (a ∈ S)))) := fun a => in_intsT a S
  obtain ⟨Γ', M', e, ⟨x, y, hΓ⟩, hM⟩ := sFor_all (fi := iSeq (dVar 0)) (tg := gTp [(gNm 3), (gNm 4)]) (body := LdB) (Γ := [some (.dat (psD P)), some (.dat (.tuple (S.map .int))), some (.ptr 0), none, none]) (M := [.fl (.list [])]) (M1 := [.fl (.list [])]) (ds := P.map kd) rfl
    (fun i Γ M => (∃ x y, Γ = [some (.dat (psD P)), some (.dat (.tuple (S.map .int))), some (.ptr 0), x, y]) ∧ M = [.fl (.list ((ledL (P.take i) S).map .int))]) ⟨⟨_, _, rfl⟩, rfl⟩ fun i d Γ M hd ⟨⟨x, y, hΓ⟩, hM⟩ => by
      subst hΓ hM
      rw [List.getElem?_map] at hd
      obtain ⟨⟨a, b⟩, hp, rfl⟩ := Option.map_eq_some_iff.mp hd
      have hi := (List.getElem?_eq_some_iff.mp hp).1
      have hl := ledL_le (P.take i) S
      rw [List.length_take] at hl
      refine ⟨_, _, _, rfl, led_step (hin a) (by omega), ⟨_, _, rfl⟩, ?_⟩
      rw [ledL_take hp]
  rw [List.length_map, List.take_length] at hM
  subst hΓ hM
  generalize PyData.tuple (S.map .int) = T at *
  generalize psD P = PD at *
  generalize (ledL P S).map PyData.int = L at *
  unfold g__law_led
  refine fun_rtP (Γ1 := [some (.dat PD), some (.dat T), some (.ptr 0), x, y]) (M := [.fl (.list L)]) (n := 0) ?_ rfl
  show (sSeq _ _) [some (.dat PD), some (.dat T), none, none, none] [] = _
  rw [seq_nx (Γ1 := [some (.dat PD), some (.dat T), some (.ptr 0), none, none]) (M1 := [.fl (.list [])]) rfl, seq_nx e]
  rfl
theorem ascI_iff {S : List Int} : ascI S = true ↔ ∀ j a b, S[j]? = some a → S[j + 1]? = some b → a < b := by
  unfold ascI
  rw [List.all_eq_true]
  constructor
  · intro h j a b h1 h2
    have := h (a, b) (by
      rw [List.mem_iff_getElem?]
      refine ⟨j, ?_⟩
      rw [List.getElem?_zip_eq_some]
      exact ⟨h1, by rw [List.getElem?_drop, Nat.add_comm]; exact h2⟩)
    exact of_decide_eq_true this
  · intro h p hp
    obtain ⟨j, hj⟩ := List.mem_iff_getElem?.mp hp
    rw [List.getElem?_zip_eq_some, List.getElem?_drop, Nat.add_comm] at hj
    exact decide_eq_true (h j p.1 p.2 hj.1 hj.2)
/-- the neighbours that do not rise -/
def badI (S : List Int) (k : Nat) : Bool := match S[k]?, S[k + 1]? with
  | some a, some b => decide (b ≤ a)
  | _, _ => false
theorem badI_any (S : List Int) : ((List.range (S.length - 1)).map (badI S)).any id = !ascI S := by
  rw [Bool.eq_iff_iff, List.any_map, List.any_eq_true, Bool.not_eq_true']
  constructor
  · rintro ⟨k, hk, h⟩
    have hk := List.mem_range.mp hk
    have g1 : S[k]? = some (S[k]'(by omega)) := List.getElem?_eq_getElem (by omega)
    have g2 : S[k + 1]? = some (S[k + 1]'(by omega)) := List.getElem?_eq_getElem (by omega)
    cases ha : ascI S with
    | false => rfl
    | true =>
      have h3 := ascI_iff.mp ha k _ _ g1 g2
      have h4 : badI S k = true := h
      unfold badI at h4
      rw [g1, g2] at h4
      have := of_decide_eq_true h4
      omega
  · intro h
    apply Classical.byContradiction
    intro hn
    have : ascI S = true := ascI_iff.mpr fun j a b h1 h2 => by
      apply Classical.byContradiction
      intro hab
      refine hn ⟨j, List.mem_range.mpr ?_, ?_⟩
      · have := (List.getElem?_eq_some_iff.mp h2).1
        omega
      · show badI S j = true
        unfold badI
        rw [h1, h2]
        exact decide_eq_true (by omega)
    rw [this] at h
    cases h
theorem bad_comp {S : List Int} {A B C : Option SV} {M : Sto} (hl : S.length ≤ 5000) :
    dComp (iRng (dCons (dBin oSub (dLen (dVar 3)) (dC (.int 1))) dNil)) (cStep (gNm 4) tYes_ [4] (dBin oGe (dIx (dVar 3) (dVar 4)) (dIx (dVar 3) (dBin oAdd (dVar 4) (dC (.int 1)))))) false [A, B, C, some (.dat (.tuple (S.map .int))), none] M = some (.dat (.list (((List.range (S.length - 1)).map (badI S)).map .bool)), M) := by
  have hi : iRng (dCons (dBin oSub (dLen (dVar 3)) (dC (.int 1))) dNil) [A, B, C, some (.dat (.tuple (S.map .int))), none] M = some ((itD ((List.range (S.length - 1)).map fun k : Nat => PyData.int (k : Nat)), ((List.range (S.length - 1)).map fun k : Nat => PyData.int (k : Nat)).length), M) := by
    have : ((List.range (S.length - 1)).map fun k : Nat => PyData.int (k : Nat)) = rngD 0 (S.length - 1) := by
      unfold rngD
      refine List.map_congr_left fun k _ => ?_
      rw [Int.zero_add]
    rw [this]
    simp
    rw [rgw_1 (by omega) (by omega)]
    rw [show ((S.length : Int) - 1).toNat = S.length - 1 by omega, rngD_length]
  have e := dComp_xs (m := false) (tg := gNm 4) (own := [4]) (te := (dBin oGe (dIx (dVar 3) (dVar 4)) (dIx (dVar 3) (dBin oAdd (dVar 4) (dC (.int 1)))))) (List.range (S.length - 1)) (fun k : Nat => PyData.int (k : Nat)) (fun k => .bool (badI S k)) hi (by rw [lim_e, List.length_range]; omega) fun k hk => ⟨[A, B, C, some (.dat (.tuple (S.map .int))), some (.dat (.int (k : Nat)))], rfl, by
    have hk := List.mem_range.mp hk
    have g1 : S[k]? = some (S[k]'(by omega)) := List.getElem?_eq_getElem (by omega)
    have g2 : S[k + 1]? = some (S[k + 1]'(by omega)) := List.getElem?_eq_getElem (by omega)
    have hb : badI S k = decide (S[k + 1]'(by omega) ≤ S[k]'(by omega)) := by
      unfold badI
      rw [g1, g2]
    rw [hb]
    have a1 : atI (S.map PyData.int) ((k : Nat) : Int) = some (.int (S[k]'(by omega))) := EL.atI_nat (by rw [List.getElem?_map, g1]; rfl)
    have a2 : atI (S.map PyData.int) ((k : Nat) + 1 : Int) = some (.int (S[k + 1]'(by omega))) := EL.atI_nat (n := k + 1) (by rw [List.getElem?_map, g2]; rfl)
    generalize S[k]'(by omega) = a at *
    generalize S[k + 1]'(by omega) = b at *
    generalize S.map PyData.int = L at *
    simp [a1, a2, -atI_nn]⟩
  rw [e, finD_f, List.map_map]
  rfl
theorem rng_comp2 {n : Nat} {ds : List D} {A B : Option SV} {M : Sto} (hp : ∀ d ∈ ds, d.plain = true) (hl : ds.length ≤ 5000) :
    dComp (iSeq (dVar 3)) (cStep (gNm 4) tYes_ [4] (dAnd (dCall g__law_is_int (dCons (dVar 4) dNil)) (dAnd (dBin oLe (dC (.int 0)) (dVar 4)) (dBin oLt (dVar 4) (dVar 0))))) false [some (.dat (.int n)), A, B, some (.dat (.tuple ds)), none] M = some (.dat (.list ((ds.map (inRng n)).map .bool)), M) := by
  have e := dComp_xs (m := false) (tg := gNm 4) (own := [4]) (te := dAnd (dCall g__law_is_int (dCons (dVar 4) dNil)) (dAnd (dBin oLe (dC (.int 0)) (dVar 4)) (dBin oLt (dVar 4) (dVar 0)))) (fi := iSeq (dVar 3)) (Γ := [some (.dat (.int n)), A, B, some (.dat (.tuple ds)), none]) (M0 := M) (M := M) ds id (fun d => .bool (inRng n d)) (by simp) (by rw [lim_e]; omega) fun d hd => ⟨[some (.dat (.int n)), A, B, some (.dat (.tuple ds)), some (.dat d)], rfl, by
    have h1 : g__law_is_int [.dat d] [] = some (.ok (.dat (.bool (EL.intD d))), []) := is_integer_spec (hp d hd)
    cases d with
    | int i =>
      unfold inRng
      by_cases h0 : 0 ≤ i <;> simp [h1, EL.intD, h0]
    | _ => simp [h1, EL.intD, inRng]⟩
  rw [e, finD_f, List.map_map]
  rfl
theorem few_no {N O PD : D} {ds : List D} {bs : List Bool} (hc : dComp (iSeq (dVar 3)) (cStep (gNm 4) tYes_ [4] (dAnd (dCall g__law_is_int (dCons (dVar 4) dNil)) (dAnd (dBin oLe (dC (.int 0)) (dVar 4)) (dBin oLt (dVar 4) (dVar 0))))) false [some (.dat N), some (.dat O), some (.dat PD), some (.dat (.tuple ds)), none] [] = some (.dat (.list (bs.map .bool)), [])) (ha : bs.all id = false) :
    g__law_is_few [.dat N, .dat O, .dat PD, .dat (.tuple ds)] [] = some (.ok (.dat (.bool false)), []) := by
  simp [g__law_is_few, oIsi, isi, hc, ha]
theorem few_chain {N O sl X Y : Int} {PD : D} {ds L : List D} {bs zs : List Bool} {b r : Bool} (hc : dComp (iSeq (dVar 3)) (cStep (gNm 4) tYes_ [4] (dAnd (dCall g__law_is_int (dCons (dVar 4) dNil)) (dAnd (dBin oLe (dC (.int 0)) (dVar 4)) (dBin oLt (dVar 4) (dVar 0))))) false [some (.dat (.int N)), some (.dat (.int O)), some (.dat PD), some (.dat (.tuple ds)), none] [] = some (.dat (.list (bs.map .bool)), [])) (ha : bs.all id = true)
    (hz : dComp (iRng (dCons (dBin oSub (dLen (dVar 3)) (dC (.int 1))) dNil)) (cStep (gNm 4) tYes_ [4] (dBin oGe (dIx (dVar 3) (dVar 4)) (dIx (dVar 3) (dBin oAdd (dVar 4) (dC (.int 1)))))) false [some (.dat (.int N)), some (.dat (.int O)), some (.dat PD), some (.dat (.tuple ds)), none] [] = some (.dat (.list (zs.map .bool)), [])) (hza : zs.any id = !b)
    (hs : g__law_led [.dat PD, .dat (.tuple ds)] [] = some (.ok (.dat (.list L)), [])) (hd : lenD (.tuple ds) = some sl)
    (m1 : oMul (.int sl) (.int O) = some (.dat (.int X))) (m2 : oMul (.int (L.length : Nat)) (.int N) = some (.dat (.int Y))) (hcmp : oGt (.int X) (.int Y) = some (.dat (.bool r))) :
    g__law_is_few [.dat (.int N), .dat (.int O), .dat PD, .dat (.tuple ds)] [] = some (.ok (.dat (.bool (b && r))), []) := by
  cases b with
  | false => simp [g__law_is_few, oIsi, isi, hc, ha, hz, hza]
  | true =>
    have hls : dLen (dCall g__law_led (dCons (dVar 2) (dCons (dVar 3) dNil))) [some (SV.dat (.int N)), some (.dat (.int O)), some (.dat PD), some (.dat (.tuple ds)), none] [] = some (.dat (.int (L.length : Nat)), []) := by
      simp [hs]
    unfold g__law_is_few
    refine fun_rt (Γ1 := [some (.dat (.int N)), some (.dat (.int O)), some (.dat PD), some (.dat (.tuple ds)), none]) (M := []) ?_
    show (sSeq _ _) [some (SV.dat (.int N)), some (.dat (.int O)), some (.dat PD), some (.dat (.tuple ds)), none] [] = _
    rw [seq_nx (Γ1 := [some (SV.dat (.int N)), some (.dat (.int O)), some (.dat PD), some (.dat (.tuple ds)), none]) (M1 := []) (by simp [oIsi, isi, hc, ha])]
    rw [seq_nx (Γ1 := [some (SV.dat (.int N)), some (.dat (.int O)), some (.dat PD), some (.dat (.tuple ds)), none]) (M1 := []) (by simp [hz, hza])]
    exact ret_gt (dLen_at rfl hd) rfl m1 hls rfl m2 hcmp
theorem is_few_spec {n m : Nat} {P : List Pr} {d : D} (h : d.plain = true) (hL : ∀ ds, d = .tuple ds → ds.length ≤ 5000) (hP : P.length ≤ 500) (hn : n ≤ 100) (hm : m ≤ 100) :
    g__law_is_few [.dat (.int n), .dat (.int m), .dat (psD P), .dat d] [] = some (.ok (.dat (.bool (barB n m P d))), []) := by
  cases d with
  | dict kvs => simp [PyData.plain] at h
  | tuple ds =>
    have hl := hL ds rfl
    have hp := plainAll_mem (show PyData.plainAll ds = true by rw [PyData.plain] at h; exact h)
    have hc := rng_comp2 (n := n) (A := some (.dat (.int m))) (B := some (.dat (psD P))) (M := []) hp hl
    have ha := lbl_all (ds := ds) (n := n)
    cases hok : ds.all (inRng n) with
    | false =>
      rw [hok] at ha
      rw [few_no hc ha]
      have : barB n m P (.tuple ds) = false := by
        show (ds.all (inRng n) && _) = false
        rw [hok]; rfl
      rw [this]
    | true =>
      rw [hok] at ha
      obtain ⟨S, rfl, hS⟩ := ints_of hok
      have hl' : S.length ≤ 5000 := by simpa using hl
      have hz := bad_comp (S := S) (A := some (.dat (.int n))) (B := some (.dat (.int m))) (C := some (.dat (psD P))) (M := []) hl'
      have hs := law_led_spec (P := P) (S := S) hP
      have hll := ledL_le P S
      have e := few_chain (sl := (S.length : Nat)) hc ha hz (badI_any S) hs (by rw [lenD_tup, List.length_map]) (mul_nn (by omega)) (by rw [List.length_map]; exact mul_nn (by omega)) gt_nn
      rw [e]
      have : barB n m P (.tuple (S.map .int)) = (ascI S && barI n m P S) := by
        show ((S.map PyData.int).all (inRng n) && (ascI ((S.map PyData.int).map unI) && barI n m P ((S.map PyData.int).map unI))) = _
        rw [hok, unI_map, Bool.true_and]
      rw [this]; rfl
  | _ => simp [g__law_is_few, oIsi, isi, barB]
end K02
namespace K02
open PySem PySem.Spec PyProof.Rows L2 EL

theorem inB_kd (p : Pr) (P : List Pr) : oInB (kd p) (psD P) = some (decide (p ∈ P)) := by
  have hp : PyData.plainAll (P.map kd) = true := by
    rw [plainAll_iff]
    intro d hd
    obtain ⟨q, _, rfl⟩ := List.mem_map.mp hd
    simp [kd, PyData.plain, PyData.plainAll]
  have hk : (kd p).plain = true := by simp [kd, PyData.plain, PyData.plainAll]
  have hdp : (kd p).depth ≤ 60 := by simp [kd, PyData.depth, PyData.depthAll]
  have he : ∀ q : Pr, PyData.eqv (kd q) (kd p) = decide (q = p) := fun q => by
    obtain ⟨a, b⟩ := p
    obtain ⟨c, e⟩ := q
    simp [kd, PyData.eqv, PyData.eqvAll]
    rw [Bool.eq_iff_iff]
    simp
  have ho : okIn (kd p) (P.map kd) = true := by
    unfold okIn
    rw [hk, hp, decide_eq_true (Nat.le_trans (Nat.min_le_right _ _) hdp)]
    rfl
  have hi : inD (kd p) (P.map kd) = decide (p ∈ P) := by
    unfold inD
    rw [Bool.eq_iff_iff, List.any_eq_true, decide_eq_true_iff]
    constructor
    · rintro ⟨y, hy, h⟩
      obtain ⟨q, hq, rfl⟩ := List.mem_map.mp hy
      rw [he, decide_eq_true_iff] at h
      rw [← h]
      exact hq
    · intro h
      exact ⟨kd p, List.mem_map.mpr ⟨p, h, rfl⟩, by rw [he, decide_eq_true_iff]⟩
  show (if okIn (kd p) (P.map kd) = true then some (inD (kd p) (P.map kd)) else none) = _
  rw [if_pos ho, hi]
theorem in_kd (p : Pr) (P : List Pr) : oIn (kd p) (psD P) = some (.dat (.bool (decide (p ∈ P)))) := by
  unfold oIn
  rw [inB_kd]; rfl
theorem notIn_kd (p : Pr) (P : List Pr) : oNotIn (kd p) (.list (P.map kd)) = some (.dat (.bool (!decide (p ∈ P)))) := by
  unfold oNotIn
  have : oInB (kd p) (.list (P.map kd)) = oInB (kd p) (psD P) := rfl
  rw [this, inB_kd]; rfl
def prR (t : EL.Row) : Pr := (t.1, t.2.1)
theorem cut2 (t : EL.Row) : sCut (rowD t) none (some 2) = some (.dat (kd (prR t))) := by
  show some (OR.dat (.tuple (cutL _ none (some 2)))) = _
  rw [cut_to (by decide)]
  rfl
/-- the pairs of a datum's rows are allowed -/
def inPB (P : List Pr) : D → Bool
  | .tuple ds => (ds.map unrow).all fun t => decide (prR t ∈ P)
  | _ => false
def twB (n m : Nat) (P : List Pr) (d : D) : Bool := tieB n m d && inPB P d
theorem rows_comp {k q : Nat} {fi : DI} {Γ : Ga} {M : Sto} {P : List Pr} {rs : List EL.Row} (hi : fi Γ M = some ((itD (rs.map rowD), (rs.map rowD).length), M)) (hl : rs.length ≤ 5000)
    (hk : ∀ t : EL.Row, dVar k ((wipeG Γ [k]).set k (some (.dat (rowD t)))) M = some (.dat (rowD t), M)) (hq : ∀ t : EL.Row, dVar q ((wipeG Γ [k]).set k (some (.dat (rowD t)))) M = some (.dat (psD P), M)) :
    dComp fi (cStep (gNm k) tYes_ [k] (dBin oIn (dSl (dVar k) oN (oS (dC (.int 2)))) (dVar q))) false Γ M = some (.dat (.list ((rs.map fun t => decide (prR t ∈ P)).map .bool)), M) := by
  have e := dComp_xs (m := false) (tg := gNm k) (own := [k]) (te := (dBin oIn (dSl (dVar k) oN (oS (dC (.int 2)))) (dVar q))) rs rowD (fun t => .bool (decide (prR t ∈ P))) hi (by rw [lim_e]; omega) fun t _ => ⟨(wipeG Γ [k]).set k (some (.dat (rowD t))), rfl, by
    have h1 := hk t
    have h2 := hq t
    have h3 := cut2 t
    have h4 := in_kd (prR t) P
    generalize (wipeG Γ [k]).set k (some (.dat (rowD t))) = Γ1 at *
    generalize psD P = PD at *
    generalize rowD t = R at *
    generalize kd (prR t) = K at *
    rw [dBin_e, dSl_e, h1]
    simp only [Option.bind_some, oN_e, oS_e, dC_e, osk_e, val_dat, h3, Option.map_some, out_dat, h2, h4]⟩
  rw [e, finD_f, List.map_map]
  rfl
theorem tie_rows {n m : Nat} {d : D} (h : tieB n m d = true) : ∃ rs : List EL.Row, d = .tuple (rs.map rowD) ∧ (∀ t ∈ rs, InR n m t) ∧ tieR n m rs = true := by
  unfold tieB at h
  split at h
  · rename_i ds
    simp only [Bool.and_eq_true] at h
    obtain ⟨_, h2, h3⟩ := h
    obtain ⟨rs, rfl, hr⟩ := rows_of (List.all_eq_true.mp h2)
    rw [unrow_rows] at h3
    exact ⟨rs, rfl, hr, h3⟩
  · cases h
theorem inPB_rows {P : List Pr} (rs : List EL.Row) : inPB P (.tuple (rs.map rowD)) = (rs.map fun t => decide (prR t ∈ P)).all id := by
  show ((rs.map rowD).map unrow).all _ = _
  rw [unrow_rows, List.all_map]; rfl
theorem tw_no {N O PD d : D} (h : g_is_tie [.dat d, .dat N, .dat O] [] = some (.ok (.dat (.bool false)), [])) : g_shows_tie_within [.dat N, .dat O, .dat PD, .dat d] [] = some (.ok (.dat (.bool false)), []) := by
  simp [g_shows_tie_within, h]
theorem tw_yes {N O PD d : D} {bs : List Bool} (h : g_is_tie [.dat d, .dat N, .dat O] [] = some (.ok (.dat (.bool true)), []))
    (hc : dComp (iSeq (dVar 3)) (cStep (gNm 4) tYes_ [4] (dBin oIn (dSl (dVar 4) oN (oS (dC (.int 2)))) (dVar 2))) false [some (.dat N), some (.dat O), some (.dat PD), some (.dat d), none] [] = some (.dat (.list (bs.map .bool)), [])) : g_shows_tie_within [.dat N, .dat O, .dat PD, .dat d] [] = some (.ok (.dat (.bool (bs.all id))), []) := by
  simp [g_shows_tie_within, h, hc]
theorem shows_tie_spec {n m : Nat} {P : List Pr} {d : D} (h : d.plain = true) (hL : ∀ ds, d = .tuple ds → ds.length ≤ 5000) (hn : 0 < n) (hn2 : n ≤ 100) (hm : 0 < m) (hm2 : m ≤ 100) :
    g_shows_tie_within [.dat (.int n), .dat (.int m), .dat (psD P), .dat d] [] = some (.ok (.dat (.bool (twB n m P d))), []) := by
  have e := is_tie_spec h hL hn hn2 hm hm2
  unfold twB
  cases ht : tieB n m d with
  | false =>
    rw [ht] at e
    rw [tw_no e]; rfl
  | true =>
    rw [ht] at e
    obtain ⟨rs, rfl, _, _⟩ := tie_rows ht
    have hl := hL _ rfl
    rw [List.length_map] at hl
    have hc := rows_comp (k := 4) (q := 2) (fi := iSeq (dVar 3)) (Γ := [some (.dat (.int n)), some (.dat (.int m)), some (.dat (psD P)), some (.dat (.tuple (rs.map rowD))), none]) (M := []) (P := P) (rs := rs) rfl hl (fun t => rfl) (fun t => rfl)
    rw [tw_yes e hc, inPB_rows]; rfl
end K02
namespace K02
open PySem PySem.Spec PyProof.Rows L2 EL

/-- the sum over the pairs of a kind -/
def ws (A : Pr → Bool) (Q : List Pr) (t : Pr → Int) : Int := ((Q.filter A).map t).sum
theorem ws_cons (A : Pr → Bool) (p : Pr) (Q : List Pr) (t : Pr → Int) : ws A (p :: Q) t = (if A p = true then t p else 0) + ws A Q t := by
  unfold ws
  by_cases h : A p = true
  · rw [List.filter_cons_of_pos h, List.map_cons, List.sum_cons, if_pos h]
  · rw [List.filter_cons_of_neg h, if_neg h]; omega
def bump (t : Pr → Int) (p : Pr) (v : Int) : Pr → Int := fun q => if q = p then t q + v else t q
theorem bump_at {t : Pr → Int} {p : Pr} {v : Int} : bump t p v p = t p + v := if_pos rfl
theorem bump_ne {t : Pr → Int} {p q : Pr} {v : Int} (h : q ≠ p) : bump t p v q = t q := if_neg h
theorem ws_out {A : Pr → Bool} {p : Pr} {t : Pr → Int} {v : Int} : ∀ {Q : List Pr}, p ∉ Q → ws A Q (bump t p v) = ws A Q t
  | [], _ => rfl
  | q :: Q, h => by
    rw [List.mem_cons, not_or] at h
    rw [ws_cons, ws_cons, ws_out h.2, bump_ne fun e => h.1 e.symm]
theorem ws_bump {A : Pr → Bool} {p : Pr} {t : Pr → Int} {v : Int} : ∀ {Q : List Pr}, Q.Nodup → p ∈ Q → ws A Q (bump t p v) = ws A Q t + if A p = true then v else 0
  | q :: Q, hn, h => by
    rw [List.nodup_cons] at hn
    rw [ws_cons, ws_cons]
    by_cases e : q = p
    · subst e
      rw [ws_out hn.1, bump_at]
      split <;> omega
    · have hp : p ∈ Q := (List.mem_cons.mp h).resolve_left fun z => e z.symm
      rw [ws_bump hn.2 hp, bump_ne e]
      omega
theorem ws_nn {A : Pr → Bool} {t : Pr → Int} : ∀ {Q : List Pr}, (∀ p ∈ Q, 0 ≤ t p) → 0 ≤ ws A Q t
  | [], _ => Int.le_refl _
  | q :: Q, h => by
    rw [ws_cons]
    have h1 := h q List.mem_cons_self
    have h2 := ws_nn (A := A) (Q := Q) fun p hp => h p (List.mem_cons_of_mem _ hp)
    split <;> omega
theorem ws_le {A B : Pr → Bool} {t : Pr → Int} : ∀ {Q : List Pr}, (∀ p ∈ Q, 0 ≤ t p) → (∀ p ∈ Q, A p = true → 0 < t p → B p = true) → ws A Q t ≤ ws B Q t
  | [], _, _ => Int.le_refl _
  | q :: Q, h, hAB => by
    rw [ws_cons, ws_cons]
    have h1 := h q List.mem_cons_self
    have h2 := ws_le (A := A) (B := B) (Q := Q) (fun p hp => h p (List.mem_cons_of_mem _ hp)) fun p hp => hAB p (List.mem_cons_of_mem _ hp)
    have h3 := hAB q List.mem_cons_self
    by_cases ha : A q = true
    · rw [if_pos ha]
      by_cases h0 : 0 < t q
      · rw [if_pos (h3 ha h0)]; omega
      · split <;> omega
    · rw [if_neg ha]
      split <;> omega
theorem ws_congr {A B : Pr → Bool} {t : Pr → Int} {Q : List Pr} (h : ∀ p ∈ Q, A p = B p) : ws A Q t = ws B Q t := by
  unfold ws
  rw [List.filter_congr h]
theorem ws_or {A B : Pr → Bool} {t : Pr → Int} : ∀ {Q : List Pr}, (∀ p ∈ Q, ¬ (A p = true ∧ B p = true)) → ws (fun p => A p || B p) Q t = ws A Q t + ws B Q t
  | [], _ => rfl
  | q :: Q, h => by
    rw [ws_cons, ws_cons, ws_cons, ws_or (Q := Q) fun p hp => h p (List.mem_cons_of_mem _ hp)]
    have h1 := h q List.mem_cons_self
    cases ha : A q <;> cases hb : B q <;> simp_all <;> omega
def rowS (Q : List Pr) (t : Pr → Int) (i : Int) : Int := ws (fun p => decide (p.1 = i)) Q t
def colS (Q : List Pr) (t : Pr → Int) (j : Int) : Int := ws (fun p => decide (p.2 = j)) Q t
theorem ws_false {t : Pr → Int} : ∀ {Q : List Pr}, ws (fun _ => false) Q t = 0
  | [] => rfl
  | q :: Q => by
    rw [ws_cons, ws_false (Q := Q)]; rfl
theorem rows_sum {Q : List Pr} {t : Pr → Int} : ∀ {S : List Int}, S.Nodup → (S.map (rowS Q t)).sum = ws (fun p => decide (p.1 ∈ S)) Q t
  | [], _ => by
    rw [ws_congr (B := fun _ => false) (by simp), ws_false]; rfl
  | i :: S, hn => by
    rw [List.nodup_cons] at hn
    rw [List.map_cons, List.sum_cons, rows_sum hn.2]
    have : ws (fun p => decide (p.1 ∈ i :: S)) Q t = ws (fun p => decide (p.1 = i) || decide (p.1 ∈ S)) Q t := ws_congr fun p _ => by
      rw [Bool.eq_iff_iff]; simp
    rw [this, ws_or (A := fun p => decide (p.1 = i)) (B := fun p => decide (p.1 ∈ S)) fun p _ h => by
      have h1 := of_decide_eq_true h.1
      have h2 := of_decide_eq_true h.2
      rw [h1] at h2
      exact hn.1 h2]
    rfl
theorem cols_sum {Q : List Pr} {t : Pr → Int} : ∀ {S : List Int}, S.Nodup → (S.map (colS Q t)).sum = ws (fun p => decide (p.2 ∈ S)) Q t
  | [], _ => by
    rw [ws_congr (B := fun _ => false) (by simp), ws_false]; rfl
  | i :: S, hn => by
    rw [List.nodup_cons] at hn
    rw [List.map_cons, List.sum_cons, cols_sum hn.2]
    have : ws (fun p => decide (p.2 ∈ i :: S)) Q t = ws (fun p => decide (p.2 = i) || decide (p.2 ∈ S)) Q t := ws_congr fun p _ => by
      rw [Bool.eq_iff_iff]; simp
    rw [this, ws_or (A := fun p => decide (p.2 = i)) (B := fun p => decide (p.2 ∈ S)) fun p _ h => by
      have h1 := of_decide_eq_true h.1
      have h2 := of_decide_eq_true h.2
      rw [h1] at h2
      exact hn.1 h2]
    rfl
theorem sum_const {S : List Int} {f : Int → Int} {c : Int} (h : ∀ i ∈ S, f i = c) : (S.map f).sum = S.length * c := by
  induction S with
  | nil => simp
  | cons a r ih =>
    rw [List.map_cons, List.sum_cons, ih fun i hi => h i (List.mem_cons_of_mem _ hi), h a List.mem_cons_self, List.length_cons]
    push_cast
    rw [Int.add_mul]
    omega
theorem sum_leC {S : List Int} {f : Int → Int} {c : Int} (h : ∀ i ∈ S, f i ≤ c) : (S.map f).sum ≤ S.length * c := by
  induction S with
  | nil => simp
  | cons a r ih =>
    have h1 := ih fun i hi => h i (List.mem_cons_of_mem _ hi)
    have h2 := h a List.mem_cons_self
    rw [List.map_cons, List.sum_cons, List.length_cons]
    push_cast
    rw [Int.add_mul]
    omega
theorem sum_ltC {S : List Int} {f : Int → Int} {c : Int} (h : ∀ i ∈ S, f i ≤ c) {k : Int} (hk : k ∈ S) (hlt : f k < c) : (S.map f).sum < S.length * c := by
  induction S with
  | nil => cases hk
  | cons a r ih =>
    have h2 := h a List.mem_cons_self
    rw [List.map_cons, List.sum_cons, List.length_cons]
    push_cast
    rw [Int.add_mul]
    rcases List.mem_cons.mp hk with rfl | hk
    · have h1 := sum_leC (S := r) (f := f) (c := c) fun i hi => h i (List.mem_cons_of_mem _ hi)
      omega
    · have h1 := ih (fun i hi => h i (List.mem_cons_of_mem _ hi)) hk
      omega
/-- a flow over the pairs Q: what is sent, what is left on both sides -/
structure Fl (n m : Nat) (Q : List Pr) (t : Pr → Int) (lf rt : Int → Int) : Prop where
  nd : Q.Nodup
  rng : ∀ p ∈ Q, (0 ≤ p.1 ∧ p.1 < n) ∧ 0 ≤ p.2 ∧ p.2 < m
  nn : ∀ p, 0 ≤ t p
  sup : ∀ p, t p ≠ 0 → p ∈ Q
  le : ∀ i : Int, 0 ≤ i → i < n → lf i = m - rowS Q t i
  re : ∀ j : Int, 0 ≤ j → j < m → rt j = n - colS Q t j
  le0 : ∀ i : Int, 0 ≤ i → i < n → 0 ≤ lf i
  re0 : ∀ j : Int, 0 ≤ j → j < m → 0 ≤ rt j
section
variable {n m : Nat} {Q : List Pr} {t : Pr → Int} {lf rt : Int → Int} {S N : List Int}
theorem bar_thm (F : Fl n m Q t lf rt) (hS : S.Nodup) (hr : ∀ i ∈ S, 0 ≤ i ∧ i < n) (hN : N.Nodup) (hNm : ∀ j, j ∈ N ↔ ∃ i ∈ S, (i, j) ∈ Q)
    (cl : ∀ i ∈ S, ∀ j, (i, j) ∈ Q → rt j ≤ 0 ∧ ∀ k : Int, 0 ≤ k → k < n → 0 < t (k, j) → k ∈ S) {r : Int} (hrS : r ∈ S) (h0 : 0 < lf r) : N.length * n < S.length * m := by
  have hNr : ∀ j ∈ N, 0 ≤ j ∧ j < m := fun j hj => by
    obtain ⟨i, _, hq⟩ := (hNm j).mp hj
    exact (F.rng _ hq).2
  have e1 : (N.map (colS Q t)).sum = N.length * n := sum_const fun j hj => by
    obtain ⟨i, hi, hq⟩ := (hNm j).mp hj
    have h1 := (cl i hi j hq).1
    have h2 := F.re0 j (hNr j hj).1 (hNr j hj).2
    have h3 := F.re j (hNr j hj).1 (hNr j hj).2
    omega
  rw [cols_sum hN] at e1
  have e2 : (S.map (rowS Q t)).sum < S.length * m := sum_ltC (fun i hi => by
    have h2 := F.le0 i (hr i hi).1 (hr i hi).2
    have h3 := F.le i (hr i hi).1 (hr i hi).2
    omega) hrS (by
    have h3 := F.le r (hr r hrS).1 (hr r hrS).2
    omega)
  rw [rows_sum hS] at e2
  have e3 : ws (fun p => decide (p.2 ∈ N)) Q t ≤ ws (fun p => decide (p.1 ∈ S)) Q t := ws_le (fun p _ => F.nn p) fun p hp hA h0 => by
    obtain ⟨i, hi, hq⟩ := (hNm p.2).mp (of_decide_eq_true hA)
    exact decide_eq_true ((cl i hi p.2 hq).2 p.1 (F.rng p hp).1.1 (F.rng p hp).1.2 h0)
  have : ((N.length * n : Nat) : Int) < ((S.length * m : Nat) : Int) := by
    push_cast
    omega
  exact Int.ofNat_lt.mp this
theorem tie_thm (F : Fl n m Q t lf rt) (hz : ∀ i : Int, 0 ≤ i → i < n → lf i ≤ 0) (hS : S.Nodup) (hr : ∀ i ∈ S, 0 ≤ i ∧ i < n) (hN : N.Nodup) (hNm : ∀ j, j ∈ N ↔ ∃ i ∈ S, (i, j) ∈ Q) : ¬ N.length * n < S.length * m := by
  have hNr : ∀ j ∈ N, 0 ≤ j ∧ j < m := fun j hj => by
    obtain ⟨i, _, hq⟩ := (hNm j).mp hj
    exact (F.rng _ hq).2
  have e1 : (N.map (colS Q t)).sum ≤ N.length * n := sum_leC fun j hj => by
    have h2 := F.re0 j (hNr j hj).1 (hNr j hj).2
    have h3 := F.re j (hNr j hj).1 (hNr j hj).2
    omega
  rw [cols_sum hN] at e1
  have e2 : (S.map (rowS Q t)).sum = S.length * m := sum_const fun i hi => by
    have h1 := hz i (hr i hi).1 (hr i hi).2
    have h2 := F.le0 i (hr i hi).1 (hr i hi).2
    have h3 := F.le i (hr i hi).1 (hr i hi).2
    omega
  rw [rows_sum hS] at e2
  have e3 : ws (fun p => decide (p.1 ∈ S)) Q t ≤ ws (fun p => decide (p.2 ∈ N)) Q t := ws_le (fun p _ => F.nn p) fun p hp hA h0 => decide_eq_true ((hNm p.2).mpr ⟨p.1, of_decide_eq_true hA, hp⟩)
  intro h
  have : ((N.length * n : Nat) : Int) < ((S.length * m : Nat) : Int) := Int.ofNat_lt.mpr h
  push_cast at this
  omega
end
end K02
namespace K02
open PySem PySem.Spec PyProof.Rows L2 EL

/-- a way to k: from a place with something left, forth by allowed pairs and back by what is sent -/
inductive GP (n : Nat) (Q : List Pr) (t : Pr → Int) (lf : Int → Int) : List Pr → Int → Prop
  | root {k : Int} (h : 0 ≤ k ∧ k < n) (h0 : 0 < lf k) : GP n Q t lf [] k
  | snoc {ps : List Pr} {i j k : Int} (g : GP n Q t lf ps i) (hq : (i, j) ∈ Q) (ht : 0 < t (k, j)) (h : 0 ≤ k ∧ k < n) (hk : k ∉ ps.map (·.1)) (hi : k ≠ i) : GP n Q t lf (ps ++ [(i, j)]) k
def hd1 : List Pr → Int → Int
  | [], k => k
  | p :: _, _ => p.1
/-- what is sent along all but the last step -/
def adjL (t : Pr → Int) : List Pr → Int → (Pr → Int)
  | [], _ => t
  | p :: r, k => adjL (bump (bump t p 1) (hd1 r k, p.2) (-1)) r k
theorem hd1_snoc (r : List Pr) (p : Pr) (k : Int) : hd1 (r ++ [p]) k = hd1 r p.1 := by
  cases r <;> rfl
theorem adjL_snoc : ∀ (ps : List Pr) (t : Pr → Int) (p : Pr) (k : Int), adjL t (ps ++ [p]) k = bump (bump (adjL t ps p.1) p 1) (k, p.2) (-1)
  | [], t, p, k => rfl
  | q :: r, t, p, k => by
    show adjL (bump (bump t q 1) (hd1 (r ++ [p]) k, q.2) (-1)) (r ++ [p]) k = _
    rw [adjL_snoc r, hd1_snoc]
    rfl
structure Adj (n m : Nat) (Q : List Pr) (t : Pr → Int) (lf : Int → Int) (ps : List Pr) (k : Int) (A : Pr → Int) : Prop where
  nn : ∀ p, 0 ≤ A p
  same : ∀ x c, x ∉ ps.map (·.1) → x ≠ k → A (x, c) = t (x, c)
  row : ∀ r, rowS Q A r = rowS Q t r + (if r = hd1 ps k then 1 else 0) - (if r = k then 1 else 0)
  col : ∀ c, colS Q A c = colS Q t c
  sup : ∀ p, A p ≠ 0 → p ∈ Q
  root : (0 ≤ hd1 ps k ∧ hd1 ps k < n) ∧ 0 < lf (hd1 ps k)
  kr : 0 ≤ k ∧ k < n
theorem hd1_app (ps : List Pr) (p : Pr) (k : Int) : hd1 (ps ++ [p]) k = hd1 ps p.1 := hd1_snoc ps p k
theorem adj_ok {n m : Nat} {Q : List Pr} {t : Pr → Int} {lf rt : Int → Int} (F : Fl n m Q t lf rt) {ps : List Pr} {k : Int} (g : GP n Q t lf ps k) : Adj n m Q t lf ps k (adjL t ps k) := by
  induction g with
  | @root k h h0 =>
    refine ⟨F.nn, fun _ _ _ _ => rfl, fun r => ?_, fun _ => rfl, F.sup, ⟨h, h0⟩, h⟩
    show rowS Q t r = rowS Q t r + (if r = k then 1 else 0) - (if r = k then 1 else 0)
    omega
  | @snoc ps i j k g hq ht h hk hi ih =>
    have hs : adjL t (ps ++ [(i, j)]) k = bump (bump (adjL t ps i) (i, j) 1) (k, j) (-1) := adjL_snoc ps t (i, j) k
    rw [hs]
    have hkj : (k, j) ∈ Q := F.sup _ (by omega)
    have hne : (k, j) ≠ (i, j) := fun e => hi (congrArg Prod.fst e)
    have hA : adjL t ps i (k, j) = t (k, j) := ih.same k j hk hi
    refine ⟨fun p => ?_, fun x c hx hxk => ?_, fun r => ?_, fun c => ?_, fun p hp => ?_, ?_, h⟩
    · have h0 := ih.nn p
      by_cases e1 : p = (k, j)
      · subst e1
        show 0 ≤ bump (bump _ _ _) _ _ _
        rw [bump_at, bump_ne hne, hA]
        omega
      · rw [bump_ne e1]
        by_cases e2 : p = (i, j)
        · subst e2
          show 0 ≤ bump _ _ _ _
          rw [bump_at]; omega
        · rw [bump_ne e2]; exact h0
    · rw [List.map_append, List.mem_append, not_or] at hx
      have hxi : x ≠ i := fun e => hx.2 (by rw [e]; exact List.mem_singleton.mpr rfl)
      rw [bump_ne fun e => hxk (congrArg Prod.fst e), bump_ne fun e => hxi (congrArg Prod.fst e)]
      exact ih.same x c hx.1 hxi
    · unfold rowS at ih ⊢
      rw [ws_bump F.nd hkj, ws_bump F.nd hq]
      have := ih.row r
      unfold rowS at this
      rw [this, hd1_app]
      simp only [decide_eq_true_eq]
      by_cases e1 : i = r <;> by_cases e2 : k = r <;> simp [e1, e2, eq_comm] <;> omega
    · unfold colS
      rw [ws_bump F.nd hkj, ws_bump F.nd hq]
      have := ih.col c
      unfold colS at this
      rw [this]
      simp only [decide_eq_true_eq]
      split <;> omega
    · by_cases e1 : p = (k, j)
      · rw [e1]; exact hkj
      · rw [bump_ne e1] at hp
        by_cases e2 : p = (i, j)
        · rw [e2]; exact hq
        · rw [bump_ne e2] at hp
          exact ih.sup p hp
    · rw [hd1_app]
      exact ih.root
def upd1 (f : Int → Int) (i v : Int) : Int → Int := fun k => if k = i then v else f k
/-- what is sent along a whole way -/
def sent (t : Pr → Int) (ps : List Pr) (k j : Int) : Pr → Int := bump (adjL t ps k) (k, j) 1
theorem send_ok {n m : Nat} {Q : List Pr} {t : Pr → Int} {lf rt : Int → Int} (F : Fl n m Q t lf rt) {ps : List Pr} {k j : Int} (g : GP n Q t lf ps k) (hq : (k, j) ∈ Q) (hj : 0 < rt j) :
    Fl n m Q (sent t ps k j) (upd1 lf (hd1 ps k) (lf (hd1 ps k) - 1)) (upd1 rt j (rt j - 1)) ∧ (0 ≤ hd1 ps k ∧ hd1 ps k < n) ∧ 0 < lf (hd1 ps k) := by
  have a := adj_ok F g
  refine ⟨⟨F.nd, F.rng, fun p => ?_, fun p hp => ?_, fun i h1 h2 => ?_, fun c h1 h2 => ?_, fun i h1 h2 => ?_, fun c h1 h2 => ?_⟩, a.root⟩
  · have := a.nn p
    unfold sent bump
    split <;> omega
  · by_cases e : p = (k, j)
    · rw [e]; exact hq
    · unfold sent at hp
      rw [bump_ne e] at hp
      exact a.sup p hp
  · have h3 := a.row i
    have h4 := F.le i h1 h2
    unfold sent rowS
    rw [ws_bump F.nd hq]
    unfold rowS at h3 h4
    rw [h3]
    unfold upd1
    simp only [decide_eq_true_eq]
    by_cases e1 : i = hd1 ps k
    · rw [if_pos e1, if_pos e1, ← e1]
      by_cases e2 : k = i
      · rw [if_pos e2, if_pos e2.symm]; omega
      · rw [if_neg e2, if_neg fun z => e2 z.symm]; omega
    · rw [if_neg e1, if_neg e1]
      by_cases e2 : k = i
      · rw [if_pos e2, if_pos e2.symm]; omega
      · rw [if_neg e2, if_neg fun z => e2 z.symm]; omega
  · have h3 := a.col c
    have h4 := F.re c h1 h2
    unfold sent colS
    rw [ws_bump F.nd hq]
    unfold colS at h3 h4
    rw [h3]
    unfold upd1
    simp only [decide_eq_true_eq]
    by_cases e1 : c = j
    · rw [if_pos e1, if_pos e1.symm, ← e1]; omega
    · rw [if_neg e1, if_neg fun z => e1 z.symm]; omega
  · have h3 := F.le0 i h1 h2
    have h4 := a.root.2
    unfold upd1
    split
    · omega
    · exact h3
  · have h3 := F.re0 c h1 h2
    unfold upd1
    split
    · omega
    · exact h3
/-- all that is left -/
def tot (n : Nat) (lf : Int → Int) : Int := ((List.range n).map fun k : Nat => lf k).sum
theorem tot_upd {lf : Int → Int} {i v : Int} : ∀ {n : Nat}, tot n (upd1 lf i v) = tot n lf + (if 0 ≤ i ∧ i < n then v - lf i else 0)
  | 0 => by
    rw [if_neg (by omega)]; rfl
  | n + 1 => by
    have ih := tot_upd (lf := lf) (i := i) (v := v) (n := n)
    unfold tot at ih ⊢
    rw [List.range_succ, List.map_append, List.map_append, List.sum_append, List.sum_append, ih]
    show _ + (upd1 lf i v n + 0) = _ + (lf n + 0) + _
    unfold upd1
    by_cases e : (n : Int) = i
    · rw [if_pos e, if_neg (by omega), if_pos (by omega), e]; omega
    · rw [if_neg e]
      by_cases h : 0 ≤ i ∧ i < n
      · rw [if_pos h, if_pos (by omega)]; omega
      · rw [if_neg h, if_neg (by omega)]; simp
theorem tot_nn {lf : Int → Int} : ∀ {n : Nat}, (∀ i : Int, 0 ≤ i → i < n → 0 ≤ lf i) → 0 ≤ tot n lf
  | 0, _ => Int.le_refl _
  | n + 1, h => by
    have ih := tot_nn (lf := lf) (n := n) fun i h1 h2 => h i h1 (by omega)
    have h3 := h n (by omega) (by omega)
    unfold tot at ih ⊢
    rw [List.range_succ, List.map_append, List.sum_append]
    show 0 ≤ _ + (lf n + 0)
    omega
end K02
namespace K02
open PySem PySem.Spec PyProof.Rows L2 EL

def lI (n : Nat) (f : Int → Int) : List D := (List.range n).map fun k : Nat => .int (f k)
theorem lI_len {n : Nat} {f : Int → Int} : (lI n f).length = n := by simp [lI]
theorem lI_at {n : Nat} {f : Int → Int} {i : Int} (h : 0 ≤ i ∧ i < n) : atI (lI n f) i = some (.int (f i)) := by
  obtain ⟨k, rfl⟩ := Int.eq_ofNat_of_zero_le h.1
  refine EL.atI_nat ?_
  unfold lI
  rw [List.getElem?_map, List.getElem?_range (by omega)]; rfl
theorem lI_set {n : Nat} {f : Int → Int} {i v : Int} (h : 0 ≤ i) : (lI n f).set i.toNat (.int v) = lI n (upd1 f i v) := by
  obtain ⟨k, rfl⟩ := Int.eq_ofNat_of_zero_le h
  rw [Int.toNat_natCast]
  apply List.ext_getElem?
  intro j
  unfold lI
  by_cases hj : k = j
  · subst hj
    by_cases hk : k < n
    · rw [List.getElem?_set_self (by simpa using hk), List.getElem?_map, List.getElem?_range hk]
      show some (PyData.int v) = some (PyData.int (upd1 f k v k))
      unfold upd1
      rw [if_pos rfl]
    · rw [List.getElem?_eq_none (by simp; omega), List.getElem?_eq_none (by simp; omega)]
  · rw [List.getElem?_set_ne hj, List.getElem?_map, List.getElem?_map]
    by_cases hk : j < n
    · rw [List.getElem?_range hk]
      show some (PyData.int (f j)) = some (PyData.int (upd1 f k v j))
      unfold upd1
      rw [if_neg (by omega)]
    · rw [List.getElem?_eq_none (by simp; omega)]; rfl
def tb (Q : List Pr) (t : Pr → Int) : Cs := Q.map fun p => (p, t p)
theorem look_tb {Q : List Pr} {t : Pr → Int} {p : Pr} : look (tb Q t) p = if p ∈ Q then some (t p) else none := by
  induction Q with
  | nil => rfl
  | cons q r ih =>
    show (if q = p then some (t q) else look (tb r t) p) = _
    by_cases h : q = p
    · subst h
      rw [if_pos rfl, if_pos List.mem_cons_self]
    · rw [if_neg h, ih]
      by_cases h2 : p ∈ r
      · rw [if_pos h2, if_pos (List.mem_cons_of_mem _ h2)]
      · rw [if_neg h2, if_neg]
        intro z
        rcases List.mem_cons.mp z with z | z
        · exact h z.symm
        · exact h2 z
theorem keys_tb {Q : List Pr} {t : Pr → Int} : (tb Q t).map (·.1) = Q := by
  unfold tb
  rw [List.map_map]
  exact (List.map_congr_left fun t _ => rfl).trans (List.map_id Q)
theorem put_tb {Q : List Pr} {t : Pr → Int} {p : Pr} {v : Int} (hp : p ∈ Q) : dPut ((tb Q t).map ent) (kd p) (.int (t p + v)) = (tb Q (bump t p v)).map ent := by
  unfold dPut
  rw [dHas_ent, keys_tb, if_pos (decide_eq_true hp)]
  unfold tb
  rw [List.map_map, List.map_map, List.map_map]
  refine List.map_congr_left fun q _ => ?_
  show (if nk (kd q) = nk (kd p) then (kd q, PyData.int (t p + v)) else ent (q, t q)) = ent (q, bump t p v q)
  by_cases h : q = p
  · subst h
    rw [if_pos rfl, bump_at]; rfl
  · rw [if_neg fun z => h ((nk_kd _ _).mp z), bump_ne h]
theorem dk_tab {p : Pr} {cs : Cs} : dKey ((.none, .none) :: cs.map ent) (kd p) = true := keyOk_kd p
/-- the flow's own cell -/
def flF (n m : Nat) (Q : List Pr) : List (Str × SV) := [(Str.ofString "many", .dat (.int n)), (Str.ofString "others", .dat (.int m)), (Str.ofString "pairs", .dat (.list (Q.map kd))), (Str.ofString "left", .ptr 1), (Str.ofString "right", .ptr 2), (Str.ofString "table", .ptr 3)]
def flO (n m : Nat) (Q : List Pr) : Cell := .ob (Str.ofString "Flow") (flF n m Q)
section
variable {n m : Nat} {Q : List Pr}
theorem fl_many : obF "Flow" "many" (some (flO n m Q)) = some (.dat (.int n)) := rfl
theorem fl_pairs : obF "Flow" "pairs" (some (flO n m Q)) = some (.dat (.list (Q.map kd))) := rfl
theorem fl_left : obF "Flow" "left" (some (flO n m Q)) = some (.ptr 1) := rfl
theorem fl_right : obF "Flow" "right" (some (flO n m Q)) = some (.ptr 2) := rfl
theorem fl_table : obF "Flow" "table" (some (flO n m Q)) = some (.ptr 3) := rfl
theorem fm_way : obM "Flow" "way" (some (flO n m Q)) = some () := rfl
theorem fm_send : obM "Flow" "send" (some (flO n m Q)) = some () := rfl
end
/-- the store holds the flow -/
structure FlM (M : Sto) (n m : Nat) (Q : List Pr) (t : Pr → Int) (lf rt : Int → Int) : Prop where
  o : M[0]? = some (flO n m Q)
  l : M[1]? = some (.fl (.list (lI n lf)))
  r : M[2]? = some (.fl (.list (lI m rt)))
  tt : M[3]? = some (.fl (tab (tb Q t)))
theorem FlM.len {M : Sto} {n m : Nat} {Q : List Pr} {t : Pr → Int} {lf rt : Int → Int} (h : FlM M n m Q t lf rt) : 4 ≤ M.length := (List.getElem?_eq_some_iff.mp h.tt).1
theorem FlM.set {M : Sto} {n m : Nat} {Q : List Pr} {t : Pr → Int} {lf rt : Int → Int} (h : FlM M n m Q t lf rt) {k : Nat} {c : Cell} (hk : 4 ≤ k) : FlM (M.set k c) n m Q t lf rt :=
  ⟨by rw [List.getElem?_set_ne (by omega)]; exact h.o, by rw [List.getElem?_set_ne (by omega)]; exact h.l, by rw [List.getElem?_set_ne (by omega)]; exact h.r, by rw [List.getElem?_set_ne (by omega)]; exact h.tt⟩
theorem FlM.app {M : Sto} {n m : Nat} {Q : List Pr} {t : Pr → Int} {lf rt : Int → Int} (h : FlM M n m Q t lf rt) {G : Sto} : FlM (M ++ G) n m Q t lf rt := by
  have hl := h.len
  exact ⟨by rw [List.getElem?_append_left (by omega)]; exact h.o, by rw [List.getElem?_append_left (by omega)]; exact h.l, by rw [List.getElem?_append_left (by omega)]; exact h.r, by rw [List.getElem?_append_left (by omega)]; exact h.tt⟩
/-- the dict of the ways -/
abbrev Bk := List (Int × List Pr)
def flat (ps : List Pr) : List D := ps.flatMap fun p => [.int p.1, .int p.2]
theorem flat_len {ps : List Pr} : (flat ps).length = 2 * ps.length := by
  induction ps with
  | nil => rfl
  | cons p r ih =>
    show (flat r).length + 1 + 1 = _
    rw [ih, List.length_cons]; omega
theorem flat_app {ps qs : List Pr} : flat (ps ++ qs) = flat ps ++ flat qs := by
  unfold flat
  rw [List.flatMap_append]
abbrev ks (B : Bk) : List Int := B.map (·.1)
def bD (B : Bk) : List (D × D) := B.map fun e => (.int e.1, .tuple (flat e.2))
theorem bD_isN {B : Bk} : isN (bD B) = false := by
  cases B <;> rfl
theorem nk_int {i j : Int} : nk (.int i) = nk (.int j) ↔ i = j := by simp [nk]
theorem bD_key {B : Bk} {i : Int} : dKey (bD B) (.int i) = true := by
  unfold dKey
  rw [bD_isN]; rfl
theorem bD_rest {B : Bk} : dRest (bD B) = bD B := by
  unfold dRest
  rw [bD_isN]; rfl
theorem bD_has {B : Bk} {i : Int} : dHas (bD B) (.int i) = decide (i ∈ ks B) := by
  unfold dHas
  rw [Bool.eq_iff_iff, List.any_eq_true, decide_eq_true_iff, List.mem_map]
  constructor
  · rintro ⟨x, hx, h⟩
    obtain ⟨e, he, rfl⟩ := List.mem_map.mp hx
    exact ⟨e, he, nk_int.mp (of_decide_eq_true h)⟩
  · rintro ⟨e, he, rfl⟩
    exact ⟨_, List.mem_map.mpr ⟨e, he, rfl⟩, decide_eq_true rfl⟩
theorem bD_look {B : Bk} (nd : (ks B).Nodup) {e : Int × List Pr} (he : e ∈ B) : dLook (bD B) (.int e.1) = some (.tuple (flat e.2)) := by
  induction B with
  | nil => cases he
  | cons x r ih =>
    have nd : x.1 ∉ ks r ∧ (ks r).Nodup := List.nodup_cons.mp nd
    unfold dLook bD
    rw [List.map_cons, List.find?_cons]
    rcases List.mem_cons.mp he with rfl | he
    · rw [decide_eq_true rfl]; rfl
    · have hne : ¬ nk (.int x.1) = nk (.int e.1) := fun z => nd.1 (by
        rw [nk_int.mp z]
        exact List.mem_map.mpr ⟨e, he, rfl⟩)
      rw [decide_eq_false hne]
      exact ih nd.2 he
theorem bD_put {B : Bk} {i : Int} {ps : List Pr} (h : i ∉ ks B) : dPut (bD B) (.int i) (.tuple (flat ps)) = bD (B ++ [(i, ps)]) := by
  unfold dPut
  rw [bD_has, decide_eq_false h, if_neg Bool.false_ne_true]
  unfold bD
  rw [List.map_append]; rfl
theorem nodup_le : ∀ {n : Nat} {l : List Int}, l.Nodup → (∀ i ∈ l, 0 ≤ i ∧ i < n) → l.length ≤ n
  | 0, l, _, h => by
    cases l with
    | nil => exact Nat.le_refl _
    | cons x r =>
      have := h x List.mem_cons_self
      omega
  | n + 1, l, nd, h => by
    by_cases hn : (n : Int) ∈ l
    · have h1 := nodup_le (n := n) (l := l.erase n) (nd.erase _) fun i hi => by
        have h2 := (nd.mem_erase_iff).mp hi
        have h3 := h i h2.2
        have h4 := h2.1
        omega
      rw [List.length_erase_of_mem hn] at h1
      omega
    · have h1 := nodup_le (n := n) nd fun i hi => by
        have h3 := h i hi
        have : i ≠ n := fun e => hn (e ▸ hi)
        omega
      omega
theorem sortOk_ints {L : List Int} (h : L.length ≤ LIM) : sortOk (L.map .int) = true := by
  unfold sortOk
  simp only [Bool.and_eq_true, decide_eq_true_eq, Bool.or_eq_true, List.all_eq_true]
  refine ⟨⟨⟨fun d hd e he => ?_, .inr fun d hd => ?_⟩, fun d hd => ?_⟩, by rw [List.length_map]; exact h⟩
  · obtain ⟨p, _, rfl⟩ := List.mem_map.mp hd
    obtain ⟨q, _, rfl⟩ := List.mem_map.mp he
    simp [PySem.W.alike]
  · obtain ⟨p, _, rfl⟩ := List.mem_map.mp hd
    rfl
  · obtain ⟨p, _, rfl⟩ := List.mem_map.mp hd
    simp [PyData.plain, PyData.depth]
def srtI (L : List Int) : List Int := L.mergeSort fun a b => decide (a ≤ b)
theorem srt_ints (L : List Int) : srt (L.map .int) = (srtI L).map .int := by
  unfold srt srtI
  refine (List.map_mergeSort fun a _ b _ => ?_).symm
  exact (congrFun (congrFun (PySem.W.dataLe_int (fun q : Int => q)) a) b).symm
theorem srtI_mem {L : List Int} {i : Int} : i ∈ srtI L ↔ i ∈ L := (List.mergeSort_perm L _).mem_iff
theorem srtI_nd {L : List Int} (h : L.Nodup) : (srtI L).Nodup := (List.mergeSort_perm L _).nodup_iff.mpr h
theorem srtI_pw (L : List Int) : (srtI L).Pairwise fun a b => a ≤ b := by
  have := List.pairwise_mergeSort (le := fun a b : Int => decide (a ≤ b)) (fun a b c h1 h2 => by
    rw [decide_eq_true_iff] at h1 h2 ⊢
    omega) (fun a b => by
    rw [Bool.or_eq_true, decide_eq_true_iff, decide_eq_true_iff]
    omega) L
  exact this.imp fun h => of_decide_eq_true h
theorem sorted_b {B : Bk} (h : B.length ≤ LIM) : bSorted [.dict (bD B)] = some (.new (.list ((srtI (ks B)).map .int))) := by
  have hs : seqOf (.dict (bD B)) = some ((ks B).map .int) := by
    cases B with
    | nil => rfl
    | cons e r =>
      show some ((bD (e :: r)).map (·.1)) = _
      unfold bD ks
      rw [List.map_map, List.map_map]; rfl
  show (seqOf _).bind _ = _
  rw [hs, Option.bind_some, if_pos (sortOk_ints (by rw [List.length_map]; exact h)), srt_ints]
end K02
namespace K02
open PySem PySem.Spec PyProof.Rows L2 EL

abbrev wyIn : DS := sIf (tAnd_ (tVal (dBin oGt (dGet (dFld "Flow" "table" (dVar 0)) (dCons (dTup (dCons (dVar 5) (dCons (dVar 4) dNil))) (dCons (dC (.int 0)) dNil))) (dC (.int 0)))) (tVal (dBin oNotIn (dVar 5) (dVar 1)))) (sSeq (sSub (dBin oAdd (dIx (dVar 1) (dVar 3)) (dTup (dCons (dVar 3) (dCons (dVar 4) dNil)))) (dVar 1) (dVar 5))
  (sExpr (dMethW "list" cAppend (dVar 2) (dCons (dVar 5) dNil)))) sNil
abbrev wyRet : DE := dTup (dCons (dBin oAdd (dIx (dVar 1) (dVar 3)) (dTup (dCons (dVar 3) (dCons (dVar 4) dNil)))) (dCons (dCB bSorted (dCons (dVar 1) dNil)) dNil))
abbrev wyMid : DS := sSeq (sIf (tVal (dBin oGt (dIx (dFld "Flow" "right" (dVar 0)) (dVar 4)) (dC (.int 0)))) (sRet wyRet) sNil)
  (sFor (iRng (dCons (dFld "Flow" "many" (dVar 0)) dNil)) (gNm 5) wyIn)
abbrev wyList : DE := dComp (iSeq (dFld "Flow" "pairs" (dVar 0))) (cStep (gNm 6) (tVal (dBin oEq (dIx (dVar 6) (dC (.int 0))) (dVar 3))) [6] (dIx (dVar 6) (dC (.int 1))))
abbrev wyBody : DS := sSeq (sAsg 3 (dMethW "list" cPop0 (dVar 2) (dCons (dC (.int 0)) dNil))) (sFor (iSeq wyList) (gNm 4) wyMid)
abbrev wyRoots : DE := dCompT (iRng (dCons (dFld "Flow" "many" (dVar 0)) dNil)) (tStep (gNm 3) (tVal (dBin oGt (dIx (dFld "Flow" "left" (dVar 0)) (dVar 3)) (dC (.int 0)))) [3] (dVar 3) (dTup dNil)) true
theorem way_eq : g_Flow_way = dFun 7 (sSeq (sAsg 1 wyRoots) (sSeq (sAsg 2 (dCB bSorted (dCons (dVar 1) dNil) true)) (sSeq (sWhile 40 (tTru (dVar 2)) wyBody) (sRet (dTup (dCons (dC .none) (dCons (dCB bSorted (dCons (dVar 1) dNil)) dNil))))))) false true := rfl

section
variable {n m : Nat} {Q : List Pr} {t : Pr → Int} {lf rt : Int → Int} {M : Sto} {b : Nat} {x3 x4 x5 x6 : Option SV}
theorem get_tab {p : Pr} (sup : ∀ p, t p ≠ 0 → p ∈ Q) : mGet (tab (tb Q t)) [kd p, .int 0] = some (.dat (.int (t p))) := by
  unfold tab mGet
  dsimp only
  rw [if_pos dk_tab]
  show some (OR.dat ((dLook ((tb Q t).map ent) (kd p)).getD (.int 0))) = _
  rw [dLook_ent, look_tb]
  by_cases h : p ∈ Q
  · rw [if_pos h]; rfl
  · rw [if_neg h]
    have : t p = 0 := Classical.byContradiction fun z => h (sup p z)
    rw [this]; rfl
theorem notin_b {B : Bk} {i : Int} : oNotIn (.int i) (.dict (bD B)) = some (.dat (.bool (!decide (i ∈ ks B)))) := by
  unfold oNotIn
  show ((if dKey (bD B) (.int i) = true then some (dHas (dRest (bD B)) (.int i)) else none).map _) = _
  rw [if_pos bD_key, bD_rest, bD_has]; rfl
theorem ix_b {B : Bk} (nd : (ks B).Nodup) {i : Int} {ps : List Pr} (he : (i, ps) ∈ B) : ixD (.dict (bD B)) (.int i) = some (.dat (.tuple (flat ps))) := by
  rw [ixD_dict bD_key, bD_rest, bD_look nd he]; rfl
theorem set_b {B : Bk} {i : Int} {ps : List Pr} (h : i ∉ ks B) (hl : B.length < LIM) : oSet (.fl (.dict (bD B))) (.int i) (.dat (.tuple (flat ps))) = some (.fl (.dict (bD (B ++ [(i, ps)])))) := by
  have h1 : (keyK (.int i)).isSome = true ∧ (bD B).length < LIM := ⟨rfl, by unfold bD; rw [List.length_map]; exact hl⟩
  show (if isN (bD B) = true then _ else (if (keyK (.int i)).isSome = true ∧ (bD B).length < LIM then some (Cell.fl (.dict (dPut (bD B) (.int i) (.tuple (flat ps))))) else none)) = _
  rw [bD_isN, if_neg Bool.false_ne_true, if_pos h1, bD_put h]
theorem add_flat {ps : List Pr} {i j : Int} (h : ps.length ≤ 1000) : oAdd (.tuple (flat ps)) (.tuple [.int i, .int j]) = some (.dat (.tuple (flat (ps ++ [(i, j)])))) := by
  rw [oAdd_tup (by rw [flat_len, lim_e]; simp; omega), flat_app]; rfl
/-- the expression back[place] + (place, other) -/
theorem new_way {B : Bk} (nd : (ks B).Nodup) {i j : Int} {ps : List Pr} (he : (i, ps) ∈ B) (hl : ps.length ≤ 1000) (hb : M[b]? = some (.fl (.dict (bD B)))) {a c : Option SV} :
    (dBin oAdd (dIx (dVar 1) (dVar 3)) (dTup (dCons (dVar 3) (dCons (dVar 4) dNil)))) [a, some (.ptr b), c, some (.dat (.int i)), some (.dat (.int j)), x5, x6] M = some (.dat (.tuple (flat (ps ++ [(i, j)]))), M) := by
  have h1 := ix_b nd he
  have h2 := add_flat (i := i) (j := j) hl
  generalize PyData.tuple (flat ps) = A at *
  generalize PyData.tuple (flat (ps ++ [(i, j)])) = C at *
  generalize PyData.dict (bD B) = BD at *
  simp [hb, h1, h2, lim_e]
theorem in_no (hG : dGet (dFld "Flow" "table" (dVar 0)) (dCons (dTup (dCons (dVar 5) (dCons (dVar 4) dNil))) (dCons (dC (.int 0)) dNil)) [some (.ptr 0), some (.ptr b), some (.ptr (b + 1)), x3, x4, x5, x6] M = some (.dat (.int v), M)) {bb : Bool} (hN : (dBin oNotIn (dVar 5) (dVar 1)) [some (.ptr 0), some (.ptr b), some (.ptr (b + 1)), x3, x4, x5, x6] M = some (.dat (.bool bb), M)) (h : ¬ (0 < v ∧ bb = true)) :
    wyIn [some (.ptr 0), some (.ptr b), some (.ptr (b + 1)), x3, x4, x5, x6] M = some (.nx, [some (.ptr 0), some (.ptr b), some (.ptr (b + 1)), x3, x4, x5, x6], M) := by
  unfold wyIn
  rw [if_f]
  · rfl
  · have e1 : tVal (dBin oGt (dGet (dFld "Flow" "table" (dVar 0)) (dCons (dTup (dCons (dVar 5) (dCons (dVar 4) dNil))) (dCons (dC (.int 0)) dNil))) (dC (.int 0))) [some (.ptr 0), some (.ptr b), some (.ptr (b + 1)), x3, x4, x5, x6] M = some (decide (0 < v), M) := by
      rw [tVal_e, dBin_e, hG]; simp
    have e2 : tVal (dBin oNotIn (dVar 5) (dVar 1)) [some (.ptr 0), some (.ptr b), some (.ptr (b + 1)), x3, x4, x5, x6] M = some (bb, M) := by
      rw [tVal_e, hN]; rfl
    rw [tAnd_e, e1, Option.bind_some]
    by_cases hv : 0 < v
    · rw [decide_eq_true hv, if_pos rfl, e2]
      have : bb = false := by
        cases bb
        · rfl
        · exact absurd ⟨hv, rfl⟩ h
      rw [this]
    · rw [decide_eq_false hv, if_neg Bool.false_ne_true]
theorem in_yes {BD' : Cell} {one : Int} {V : D} {W : List D} (hG : dGet (dFld "Flow" "table" (dVar 0)) (dCons (dTup (dCons (dVar 5) (dCons (dVar 4) dNil))) (dCons (dC (.int 0)) dNil)) [some (.ptr 0), some (.ptr b), some (.ptr (b + 1)), x3, x4, some (.dat (.int one)), x6] M = some (.dat (.int v), M)) (hN : (dBin oNotIn (dVar 5) (dVar 1)) [some (.ptr 0), some (.ptr b), some (.ptr (b + 1)), x3, x4, some (.dat (.int one)), x6] M = some (.dat (.bool true), M)) (h : 0 < v)
    (hV : (dBin oAdd (dIx (dVar 1) (dVar 3)) (dTup (dCons (dVar 3) (dCons (dVar 4) dNil)))) [some (.ptr 0), some (.ptr b), some (.ptr (b + 1)), x3, x4, some (.dat (.int one)), x6] M = some (.dat V, M)) {BC : Cell} (hb : M[b]? = some BC) (hS : oSet BC (.int one) (.dat V) = some BD') (hw : M[b + 1]? = some (.fl (.list W))) (hl : W.length < LIM) :
    wyIn [some (.ptr 0), some (.ptr b), some (.ptr (b + 1)), x3, x4, some (.dat (.int one)), x6] M = some (.nx, [some (.ptr 0), some (.ptr b), some (.ptr (b + 1)), x3, x4, some (.dat (.int one)), x6], (M.set b BD').set (b + 1) (.fl (.list (W ++ [.int one])))) := by
  unfold wyIn
  rw [if_t]
  · have hw2 : (M.set b BD')[b + 1]? = some (.fl (.list W)) := by
      rw [List.getElem?_set_ne (by omega)]; exact hw
    rw [seq_nx (Γ1 := [some (.ptr 0), some (.ptr b), some (.ptr (b + 1)), x3, x4, some (.dat (.int one)), x6]) (M1 := M.set b BD') (by
      rw [sSub_e, hV]
      simp [hb, hS])]
    simp [hw2, hl]
  · rw [tAnd_e, tVal_e, dBin_e, hG]
    simp only [Option.bind_some, dC_e, val_dat, oGt_i, Option.map_some, out_dat, tvk_e]
    rw [if_pos (decide_eq_true h), tVal_e, hN]; rfl
end
end K02
namespace K02
open PySem PySem.Spec PyProof.Rows L2 EL

/-- by j nothing new is come to -/
def Cj (n : Nat) (t : Pr → Int) (rt : Int → Int) (K : List Int) (j : Int) : Prop := rt j ≤ 0 ∧ ∀ k : Int, 0 ≤ k → k < n → 0 < t (k, j) → k ∈ K
def Cl (n : Nat) (Q : List Pr) (t : Pr → Int) (rt : Int → Int) (K : List Int) (i : Int) : Prop := ∀ j, (i, j) ∈ Q → Cj n t rt K j
theorem Cj.mono {n : Nat} {t : Pr → Int} {rt : Int → Int} {K K' : List Int} {j : Int} (h : Cj n t rt K j) (s : ∀ k ∈ K, k ∈ K') : Cj n t rt K' j := ⟨h.1, fun k h1 h2 h3 => s k (h.2 k h1 h2 h3)⟩
theorem Cl.mono {n : Nat} {Q : List Pr} {t : Pr → Int} {rt : Int → Int} {K K' : List Int} {i : Int} (h : Cl n Q t rt K i) (s : ∀ k ∈ K, k ∈ K') : Cl n Q t rt K' i := fun j hj => (h j hj).mono s
structure WI (n : Nat) (Q : List Pr) (t : Pr → Int) (lf rt : Int → Int) (B : Bk) (W X : List Int) (c : Nat) : Prop where
  nd : (ks B).Nodup
  gp : ∀ e ∈ B, GP n Q t lf e.2 e.1
  pk : ∀ e ∈ B, ∀ p ∈ e.2, p.1 ∈ ks B
  plen : ∀ e ∈ B, e.2.length < B.length
  rk : ∀ i : Int, 0 ≤ i → i < n → 0 < lf i → i ∈ ks B
  wk : ∀ w ∈ W, w ∈ ks B
  cl : ∀ i ∈ ks B, i ∉ W → i ∉ X → Cl n Q t rt (ks B) i
  ct : W.length + c = B.length
theorem GP.rng {n : Nat} {Q : List Pr} {t : Pr → Int} {lf : Int → Int} {ps : List Pr} {k : Int} (g : GP n Q t lf ps k) : 0 ≤ k ∧ k < n := by
  cases g with
  | root h _ => exact h
  | snoc _ _ _ h _ _ => exact h
section
variable {n m : Nat} {Q : List Pr} {t : Pr → Int} {lf rt : Int → Int} {B : Bk} {W X : List Int} {c : Nat}
theorem WI.rng (w : WI n Q t lf rt B W X c) : ∀ i ∈ ks B, 0 ≤ i ∧ i < n := fun i hi => by
  obtain ⟨e, he, rfl⟩ := List.mem_map.mp hi
  exact (w.gp e he).rng
theorem WI.le (w : WI n Q t lf rt B W X c) : B.length ≤ n := by
  have := nodup_le w.nd w.rng
  rwa [List.length_map] at this
theorem ks_app {B : Bk} {i : Int} {ps : List Pr} {k : Int} : k ∈ ks (B ++ [(i, ps)]) ↔ k ∈ ks B ∨ k = i := by
  show k ∈ (B ++ [(i, ps)]).map (·.1) ↔ _
  rw [List.map_append, List.mem_append]
  simp
theorem WI.add {pl : Int} (w : WI n Q t lf rt B W [pl] c) {ps : List Pr} {j one : Int} (he : (pl, ps) ∈ B) (hq : (pl, j) ∈ Q) (h : 0 ≤ one ∧ one < n) (ht : 0 < t (one, j)) (hn : one ∉ ks B) : WI n Q t lf rt (B ++ [(one, ps ++ [(pl, j)])]) (W ++ [one]) [pl] c := by
  have hpl : pl ∈ ks B := List.mem_map.mpr ⟨_, he, rfl⟩
  have s : ∀ k ∈ ks B, k ∈ ks (B ++ [(one, ps ++ [(pl, j)])]) := fun k hk => ks_app.mpr (.inl hk)
  refine ⟨?_, fun e h1 => ?_, fun e h1 p hp => ?_, fun e h1 => ?_, fun i h1 h2 h3 => s _ (w.rk i h1 h2 h3), fun x hx => ?_, fun i hi h1 h2 => ?_, ?_⟩
  · show ((B ++ [(one, ps ++ [(pl, j)])]).map (·.1)).Nodup
    rw [List.map_append, List.nodup_append]
    refine ⟨w.nd, by simp, fun a ha b hb e => ?_⟩
    have hb : b = one := by simpa using hb
    rw [e, hb] at ha
    exact hn ha
  · rcases List.mem_append.mp h1 with h1 | h1
    · exact w.gp e h1
    · rw [List.mem_singleton.mp h1]
      refine .snoc (w.gp _ he) hq ht h (fun z => ?_) fun z => hn (by
        have z : one = pl := z
        rw [z]; exact hpl)
      obtain ⟨p, hp, e⟩ := List.mem_map.mp z
      have e : p.1 = one := e
      exact hn (by rw [← e]; exact w.pk _ he p hp)
  · rcases List.mem_append.mp h1 with h1 | h1
    · exact s _ (w.pk e h1 p hp)
    · rw [List.mem_singleton.mp h1] at hp
      rcases List.mem_append.mp hp with hp | hp
      · exact s _ (w.pk _ he p hp)
      · rw [List.mem_singleton.mp hp]
        exact s _ hpl
  · rw [List.length_append, List.length_singleton]
    rcases List.mem_append.mp h1 with h1 | h1
    · have := w.plen e h1
      omega
    · rw [List.mem_singleton.mp h1]
      have := w.plen _ he
      show (ps ++ [(pl, j)]).length < _
      rw [List.length_append, List.length_singleton]
      simp only at this
      omega
  · rcases List.mem_append.mp hx with hx | hx
    · exact s _ (w.wk x hx)
    · rw [List.mem_singleton.mp hx]
      exact ks_app.mpr (.inr rfl)
  · rw [List.mem_append, not_or] at h1
    rcases ks_app.mp hi with hi | hi
    · exact (w.cl i hi h1.1 h2).mono s
    · exact absurd (List.mem_singleton.mpr hi) h1.2
  · have := w.ct
    rw [List.length_append, List.length_append, List.length_singleton, List.length_singleton]
    omega
end
/-- the search's store -/
structure SW (M : Sto) (n m : Nat) (Q : List Pr) (t : Pr → Int) (lf rt : Int → Int) (b : Nat) (B : Bk) (W : List Int) : Prop where
  f : FlM M n m Q t lf rt
  hb : 4 ≤ b
  bb : M[b]? = some (.fl (.dict (bD B)))
  ww : M[b + 1]? = some (.fl (.list (W.map .int)))
theorem SW.put {M : Sto} {n m : Nat} {Q : List Pr} {t : Pr → Int} {lf rt : Int → Int} {b : Nat} {B B' : Bk} {W W' : List Int} (s : SW M n m Q t lf rt b B W) : SW ((M.set b (.fl (.dict (bD B')))).set (b + 1) (.fl (.list (W'.map .int)))) n m Q t lf rt b B' W' := by
  have h := s.hb
  have h1 := (List.getElem?_eq_some_iff.mp s.bb).1
  have h2 := (List.getElem?_eq_some_iff.mp s.ww).1
  refine ⟨(s.f.set h).set (by omega), h, ?_, ?_⟩
  · rw [List.getElem?_set_ne (by omega), List.getElem?_set_self h1]
  · rw [List.getElem?_set_self (by rw [List.length_set]; exact h2)]
section
variable {n m : Nat} {Q : List Pr} {t : Pr → Int} {lf rt : Int → Int} {b c : Nat} {M : Sto} {B : Bk} {W : List Int}
theorem get_e {i j : Int} {a1 a2 a3 x6 : Option SV} (f : FlM M n m Q t lf rt) (sup : ∀ p, t p ≠ 0 → p ∈ Q) : dGet (dFld "Flow" "table" (dVar 0)) (dCons (dTup (dCons (dVar 5) (dCons (dVar 4) dNil))) (dCons (dC (.int 0)) dNil)) [some (.ptr 0), a1, a2, a3, some (.dat (.int j)), some (.dat (.int i)), x6] M = some (.dat (.int (t (i, j))), M) := by
  have h := get_tab (p := (i, j)) sup
  have ht : tyD "dict" (tab (tb Q t)) = true := rfl
  have hk : kd (i, j) = .tuple [.int i, .int j] := rfl
  rw [hk] at h
  have f1 := f.o
  have f2 := f.tt
  generalize tab (tb Q t) = T at *
  simp [f1, fl_table, f2, ht, h, lim_e]
theorem many_e {Γ : Ga} (f : FlM M n m Q t lf rt) (hΓ : Γ[0]? = some (some (.ptr 0))) (hn : n ≤ 1000) : iRng (dCons (dFld "Flow" "many" (dVar 0)) dNil) Γ M = some ((itD (rngD 0 n), (rngD 0 n).length), M) := by
  simp [hΓ, f.o, fl_many]
  rw [rgw_1 (by omega) (by omega)]
  rw [Int.toNat_natCast, rngD_length]
theorem inner_loop {pl j : Int} {ps : List Pr} {x5 x6 : Option SV} (hn : n ≤ 100) (sup : ∀ p, t p ≠ 0 → p ∈ Q) (s : SW M n m Q t lf rt b B W) (w : WI n Q t lf rt B W [pl] c) (he : (pl, ps) ∈ B) (hq : (pl, j) ∈ Q) :
    ∃ x M' B' W', sFor (iRng (dCons (dFld "Flow" "many" (dVar 0)) dNil)) (gNm 5) wyIn [some (.ptr 0), some (.ptr b), some (.ptr (b + 1)), some (.dat (.int pl)), some (.dat (.int j)), x5, x6] M = some (.nx, [some (.ptr 0), some (.ptr b), some (.ptr (b + 1)), some (.dat (.int pl)), some (.dat (.int j)), x, x6], M') ∧
      SW M' n m Q t lf rt b B' W' ∧ WI n Q t lf rt B' W' [pl] c ∧ (∀ k ∈ ks B, k ∈ ks B') ∧ (pl, ps) ∈ B' ∧ ∀ k : Int, 0 ≤ k → k < n → 0 < t (k, j) → k ∈ ks B' := by
  obtain ⟨Γ', M', e, x, B', W', hΓ, s', w', h1, h2, h3⟩ := sFor_all (ds := rngD 0 n) (tg := gNm 5) (body := wyIn) (Γ := [some (.ptr 0), some (.ptr b), some (.ptr (b + 1)), some (.dat (.int pl)), some (.dat (.int j)), x5, x6]) (many_e s.f rfl (by omega))
    (fun i Γ M => ∃ x B' W', Γ = [some (.ptr 0), some (.ptr b), some (.ptr (b + 1)), some (.dat (.int pl)), some (.dat (.int j)), x, x6] ∧ SW M n m Q t lf rt b B' W' ∧ WI n Q t lf rt B' W' [pl] c ∧ (∀ k ∈ ks B, k ∈ ks B') ∧ (pl, ps) ∈ B' ∧ ∀ k : Int, 0 ≤ k → k < i → 0 < t (k, j) → k ∈ ks B')
    ⟨x5, B, W, rfl, s, w, fun _ h => h, he, fun k h1 h2 => by omega⟩ fun i d Γ M hd ⟨x, B', W', hΓ, s, w, h1, h2, h3⟩ => by
      subst hΓ
      have hi : i < n := by
        have := (List.getElem?_eq_some_iff.mp hd).1
        rwa [rngD_length] at this
      rw [rngD_get hi, Int.zero_add] at hd
      cases hd
      refine ⟨[some (.ptr 0), some (.ptr b), some (.ptr (b + 1)), some (.dat (.int pl)), some (.dat (.int j)), some (.dat (.int i)), x6], ?_⟩
      have hG := get_e (i := i) (j := j) (a1 := some (.ptr b)) (a2 := some (.ptr (b + 1))) (a3 := some (.dat (.int pl))) (x6 := x6) s.f sup
      have hN : (dBin oNotIn (dVar 5) (dVar 1)) [some (.ptr 0), some (.ptr b), some (.ptr (b + 1)), some (.dat (.int pl)), some (.dat (.int j)), some (.dat (.int i)), x6] M = some (.dat (.bool (!decide ((i : Int) ∈ ks B'))), M) := by
        have h := notin_b (B := B') (i := i)
        have h1 := s.bb
        generalize PyData.dict (bD B') = BD at *
        simp [h1, h]
      have hle := w.le
      have hcl := w.ct
      by_cases hc : 0 < t ((i : Int), j) ∧ (i : Int) ∉ ks B'
      · rw [decide_eq_false hc.2] at hN
        refine ⟨_, _, rfl, in_yes hG hN hc.1 (new_way w.nd h2 (by have := w.plen _ h2; simp only at this; omega) s.bb) s.bb (set_b hc.2 (by rw [lim_e]; omega)) s.ww (by rw [List.length_map, lim_e]; omega), some (.dat (.int i)), B' ++ [((i : Int), ps ++ [(pl, j)])], W' ++ [(i : Int)], rfl, ?_, w.add h2 hq ⟨by omega, by omega⟩ hc.1 hc.2, fun k hk => ks_app.mpr (.inl (h1 k hk)), List.mem_append_left _ h2, fun k g1 g2 g3 => ?_⟩
        · have : (W'.map PyData.int) ++ [.int (i : Int)] = (W' ++ [(i : Int)]).map .int := by rw [List.map_append]; rfl
          rw [this]
          exact s.put
        · by_cases hk : k = (i : Int)
          · exact ks_app.mpr (.inr hk)
          · exact ks_app.mpr (.inl (h3 k g1 (by omega) g3))
      · refine ⟨_, M, rfl, in_no hG hN (fun z => hc ⟨z.1, fun y => by rw [decide_eq_true y] at z; exact absurd z.2 (by simp)⟩), some (.dat (.int i)), B', W', rfl, s, w, h1, h2, fun k g1 g2 g3 => ?_⟩
        by_cases hk : k = (i : Int)
        · subst hk
          exact Classical.byContradiction fun z => hc ⟨g3, z⟩
        · exact h3 k g1 (by omega) g3
  subst hΓ
  refine ⟨x, M', B', W', e, s', w', h1, h2, fun k g1 g2 g3 => h3 k g1 ?_ g3⟩
  rw [rngD_length]
  exact g2
end
end K02
namespace K02
open PySem PySem.Spec PyProof.Rows L2 EL

section
variable {n m : Nat} {Q : List Pr} {t : Pr → Int} {lf rt : Int → Int} {b c : Nat} {M : Sto} {B : Bk} {W : List Int} {x3 x4 x5 x6 : Option SV}
/-- a way is found -/
def WayRet (n m : Nat) (Q : List Pr) (t : Pr → Int) (lf rt : Int → Int) (r : EL.Fl × Ga × Sto) : Prop :=
  ∃ M' Γ' ps k j L, r = (.rt (.dat (.tuple [.tuple (flat (ps ++ [(k, j)])), L])), Γ', M') ∧ FlM M' n m Q t lf rt ∧ GP n Q t lf ps k ∧ (k, j) ∈ Q ∧ 0 < rt j
def Jl (Q : List Pr) (pl : Int) : List Pr := Q.filter fun p => decide (p.1 = pl)
theorem list_e {pl : Int} {a b : Option SV} (f : FlM M n m Q t lf rt) (hQ : Q.length ≤ 1000) : wyList [some (.ptr 0), a, b, some (.dat (.int pl)), x4, x5, x6] M = some (.dat (.list ((Jl Q pl).map fun p => .int p.2)), M) := by
  have e := dComp_map (m := false) (fi := iSeq (dFld "Flow" "pairs" (dVar 0))) (ds := Q.map kd) (tg := gNm 6) (own := [6]) (tt := tVal (dBin oEq (dIx (dVar 6) (dC (.int 0))) (dVar 3))) (te := dIx (dVar 6) (dC (.int 1))) (Γ := [some (.ptr 0), a, b, some (.dat (.int pl)), x4, x5, x6]) (M0 := M) (M := M)
    (fun d => decide ((unkd d).1 = pl)) (fun d => .int (unkd d).2) (by
      have h := f.o
      generalize hk : List.map kd Q = KQ at *
      simp [h, fl_pairs, hk]) (by rw [List.length_map, lim_e]; omega) fun d hd => by
      obtain ⟨p, _, rfl⟩ := List.mem_map.mp hd
      refine ⟨[some (.ptr 0), a, b, some (.dat (.int pl)), x4, x5, some (.dat (kd p))], rfl, ?_, fun _ => ?_⟩
      · have : (p.1 == pl) = decide (p.1 = pl) := by rw [Bool.eq_iff_iff]; simp
        simp [kd, unkd, this]
        exact decide_eq_decide.mpr Iff.rfl
      · simp [kd, unkd]
  refine e.trans ?_
  rw [finD_f]
  unfold Jl
  rw [List.filter_map, List.map_map]; rfl
theorem right_e {j : Int} {a b d : Option SV} (f : FlM M n m Q t lf rt) (h : 0 ≤ j ∧ j < m) : tVal (dBin oGt (dIx (dFld "Flow" "right" (dVar 0)) (dVar 4)) (dC (.int 0))) [some (.ptr 0), a, b, d, some (.dat (.int j)), x5, x6] M = some (decide (0 < rt j), M) := by
  have h1 := lI_at (f := rt) h
  have h2 := f.r
  have h3 := f.o
  generalize lI m rt = L at *
  simp [h3, fl_right, h2, h1, -atI_nn]
theorem ret_e {pl j : Int} {ps : List Pr} {a d : Option SV} (nd : (ks B).Nodup) (he : (pl, ps) ∈ B) (hl : ps.length ≤ 1000) (hb : M[b]? = some (.fl (.dict (bD B)))) (hB : B.length ≤ 1000) :
    sRet wyRet [a, some (.ptr b), d, some (.dat (.int pl)), some (.dat (.int j)), x5, x6] M = some (.rt (.dat (.tuple [.tuple (flat (ps ++ [(pl, j)])), .list ((srtI (ks B)).map .int)])), [a, some (.ptr b), d, some (.dat (.int pl)), some (.dat (.int j)), x5, x6], M) := by
  have h1 := new_way (x5 := x5) (x6 := x6) (j := j) (a := a) (c := d) nd he hl hb
  have h2 := sorted_b (B := B) (by rw [lim_e]; omega)
  generalize PyData.tuple (flat (ps ++ [(pl, j)])) = A at *
  generalize PyData.dict (bD B) = BD at *
  generalize (srtI (ks B)).map PyData.int = S at *
  unfold wyRet
  rw [sRet_e, dTup_e, dCons_e, h1]
  simp [hb, h2, lim_e]
theorem mid_loop {pl : Int} {ps : List Pr} (hn : n ≤ 100) (hQ : Q.length ≤ 1000) (hr : ∀ p ∈ Q, 0 ≤ p.2 ∧ p.2 < m) (sup : ∀ p, t p ≠ 0 → p ∈ Q) (s : SW M n m Q t lf rt b B W) (w : WI n Q t lf rt B W [pl] c) (he : (pl, ps) ∈ B) :
    ∃ r, sFor (iSeq wyList) (gNm 4) wyMid [some (.ptr 0), some (.ptr b), some (.ptr (b + 1)), some (.dat (.int pl)), x4, x5, x6] M = some r ∧ (WayRet n m Q t lf rt r ∨ ∃ y4 y5 M' B' W', r = (.nx, [some (.ptr 0), some (.ptr b), some (.ptr (b + 1)), some (.dat (.int pl)), y4, y5, x6], M') ∧ SW M' n m Q t lf rt b B' W' ∧ WI n Q t lf rt B' W' [] c) := by
  obtain ⟨r, e, h⟩ := sFor_ind (fi := iSeq wyList) (ds := (Jl Q pl).map fun p => .int p.2) (tg := gNm 4) (body := wyMid) (Γ := [some (.ptr 0), some (.ptr b), some (.ptr (b + 1)), some (.dat (.int pl)), x4, x5, x6]) (M := M) (M1 := M) (by
      rw [iSeq_e, list_e s.f hQ]; rfl)
    (fun i Γ M => ∃ x4 x5 B' W', Γ = [some (.ptr 0), some (.ptr b), some (.ptr (b + 1)), some (.dat (.int pl)), x4, x5, x6] ∧ SW M n m Q t lf rt b B' W' ∧ WI n Q t lf rt B' W' [pl] c ∧ (pl, ps) ∈ B' ∧ ∀ p ∈ (Jl Q pl).take i, Cj n t rt (ks B') p.2)
    (WayRet n m Q t lf rt) ⟨x4, x5, B, W, rfl, s, w, he, fun p hp => by simp at hp⟩ fun i d Γ M hd ⟨x4, x5, B', W', hΓ, s, w, he, hC⟩ => by
      subst hΓ
      rw [List.getElem?_map] at hd
      obtain ⟨p, hp, rfl⟩ := Option.map_eq_some_iff.mp hd
      have hpm := List.mem_of_getElem? hp
      unfold Jl at hpm
      rw [List.mem_filter] at hpm
      obtain ⟨hpQ, hp1⟩ := hpm
      have hp1 : p.1 = pl := of_decide_eq_true hp1
      have hq : (pl, p.2) ∈ Q := by rw [← hp1]; exact hpQ
      have e1 := right_e (x5 := x5) (x6 := x6) (a := some (.ptr b)) (b := some (.ptr (b + 1))) (d := some (.dat (.int pl))) s.f (hr p hpQ)
      have hle := w.le
      have hpl := w.plen _ he
      refine ⟨[some (.ptr 0), some (.ptr b), some (.ptr (b + 1)), some (.dat (.int pl)), some (.dat (.int p.2)), x5, x6], ?_⟩
      by_cases h0 : 0 < rt p.2
      · rw [decide_eq_true h0] at e1
        refine ⟨_, rfl, seq_rt ((if_t e1).trans (ret_e w.nd he (by simp only at hpl; omega) s.bb (by omega))), _, _, ps, pl, p.2, _, rfl, s.f, w.gp _ he, hq, h0⟩
      · rw [decide_eq_false h0] at e1
        obtain ⟨x, M', B2, W2, e2, s2, w2, g1, g2, g3⟩ := inner_loop (x5 := x5) (x6 := x6) hn sup s w he hq
        refine ⟨_, rfl, (seq_nx (if_f e1)).trans e2, some (.dat (.int p.2)), x, B2, W2, rfl, s2, w2, g2, fun q hq2 => ?_⟩
        rw [List.take_add_one, hp, List.mem_append] at hq2
        rcases hq2 with hq2 | hq2
        · exact (hC q hq2).mono g1
        · have : q = p := by simpa using hq2
          rw [this]
          exact ⟨by omega, g3⟩
  refine ⟨r, e, h.imp id ?_⟩
  rintro ⟨Γ', M', rfl, y4, y5, B', W', rfl, s', w', he', hC⟩
  refine ⟨y4, y5, M', B', W', rfl, s', w'.nd, w'.gp, w'.pk, w'.plen, w'.rk, w'.wk, fun i hi h1 _ => ?_, w'.ct⟩
  by_cases hip : i = pl
  · subst hip
    intro j hj
    refine hC (i, j) ?_
    rw [List.length_map, List.take_length]
    unfold Jl
    exact List.mem_filter.mpr ⟨hj, decide_eq_true rfl⟩
  · exact w'.cl i hi h1 fun z => hip (List.mem_singleton.mp z)
theorem whileL_r {ft : DT} {fs : DS} {Γ Γ1 : Ga} {M M1 : Sto} {s : SV} {k : Nat} (h : ft Γ M = some (true, M)) (h2 : fs Γ M = some (.rt s, Γ1, M1)) : whileL ft fs (k + 1) Γ M = some (.rt s, Γ1, M1) := by
  rw [whileL, h]
  simp [h2]
theorem while_spec (hn : n ≤ 100) (hQ : Q.length ≤ 1000) (hr : ∀ p ∈ Q, 0 ≤ p.2 ∧ p.2 < m) (sup : ∀ p, t p ≠ 0 → p ∈ Q) : ∀ (N : Nat) {x3 x4 x5 : Option SV} {B : Bk} {W : List Int} {c : Nat} {M : Sto}, SW M n m Q t lf rt b B W → WI n Q t lf rt B W [] c → n + W.length < N + B.length →
    ∃ r, whileL (tTru (dVar 2)) wyBody N [some (.ptr 0), some (.ptr b), some (.ptr (b + 1)), x3, x4, x5, x6] M = some r ∧ (WayRet n m Q t lf rt r ∨ ∃ y3 y4 y5 M' B' c', r = (.nx, [some (.ptr 0), some (.ptr b), some (.ptr (b + 1)), y3, y4, y5, x6], M') ∧ SW M' n m Q t lf rt b B' [] ∧ WI n Q t lf rt B' [] [] c')
  | 0, _, _, _, B, W, c, M, s, w, h => by
    have := w.le
    omega
  | N + 1, x3, x4, x5, B, [], c, M, s, w, h => by
    have h1 := s.ww
    refine ⟨_, whileL_f ?_, .inr ⟨x3, x4, x5, M, B, c, rfl, s, w⟩⟩
    simp at h1
    simp [h1]
  | N + 1, x3, x4, x5, B, pl :: W, c, M, s, w, h => by
    have h1 := s.ww
    obtain ⟨⟨pl', ps⟩, he, rfl⟩ := List.mem_map.mp (w.wk pl List.mem_cons_self)
    have s1 : SW (M.set (b + 1) (.fl (.list (W.map .int)))) n m Q t lf rt b B W := by
      have h2 := (List.getElem?_eq_some_iff.mp s.ww).1
      have := s.hb
      exact ⟨s.f.set (by omega), s.hb, by rw [List.getElem?_set_ne (by omega)]; exact s.bb, by rw [List.getElem?_set_self h2]⟩
    have w1 : WI n Q t lf rt B W [pl'] (c + 1) := ⟨w.nd, w.gp, w.pk, w.plen, w.rk, fun x hx => w.wk x (List.mem_cons_of_mem _ hx), fun i hi g1 g2 => w.cl i hi (fun z => by
      rcases List.mem_cons.mp z with z | z
      · exact g2 (List.mem_singleton.mpr z)
      · exact g1 z) (by simp), by
      have := w.ct
      rw [List.length_cons] at this
      omega⟩
    have ht : tTru (dVar 2) [some (.ptr 0), some (.ptr b), some (.ptr (b + 1)), x3, x4, x5, x6] M = some (true, M) := by
      rw [List.map_cons] at h1
      simp [h1]
    have hp : sAsg 3 (dMethW "list" cPop0 (dVar 2) (dCons (dC (.int 0)) dNil)) [some (.ptr 0), some (.ptr b), some (.ptr (b + 1)), x3, x4, x5, x6] M = some (.nx, [some (.ptr 0), some (.ptr b), some (.ptr (b + 1)), some (.dat (.int pl')), x4, x5, x6], M.set (b + 1) (.fl (.list (W.map .int)))) := by
      rw [List.map_cons] at h1
      generalize W.map PyData.int = WD at *
      have hc : cPop0 (.fl (.list (PyData.int pl' :: WD))) [.dat (.int 0)] = some (.fl (.list WD), .dat (.int pl')) := rfl
      simp [h1, hc]
    obtain ⟨r, e, hr'⟩ := mid_loop (x4 := x4) (x5 := x5) (x6 := x6) hn hQ hr sup s1 w1 he
    have eb : wyBody [some (.ptr 0), some (.ptr b), some (.ptr (b + 1)), x3, x4, x5, x6] M = some r := (seq_nx hp).trans e
    rcases hr' with hr' | ⟨y4, y5, M', B', W', rfl, s', w'⟩
    · obtain ⟨M', Γ', ps', k, j, L, rfl, hh⟩ := hr'
      exact ⟨_, whileL_r ht eb, .inl ⟨M', Γ', ps', k, j, L, rfl, hh⟩⟩
    · have c1 := w'.ct
      have c2 := w.ct
      rw [List.length_cons] at c2 h
      obtain ⟨r, e2, h2⟩ := while_spec hn hQ hr sup N (x3 := some (.dat (.int pl'))) (x4 := y4) (x5 := y5) s' w' (by omega)
      exact ⟨r, (whileL_t ht eb).trans e2, h2⟩
end
end K02
namespace K02
open PySem PySem.Spec PyProof.Rows L2 EL

theorem itT_ind {ds : List D} {step : TSt} {M : Sto} (Inv : Nat → List (Key × SV) → Prop) (hs : ∀ i d acc, ds[i]? = some d → Inv i acc → ∃ acc', step (.dat d) M acc = some (acc', M) ∧ Inv (i + 1) acc') :
    ∀ (k i : Nat) (acc : List (Key × SV)), i + k = ds.length → Inv i acc → ∃ acc', itT (itD ds) step (k + 1) i M acc = some (acc', M) ∧ Inv ds.length acc'
  | 0, i, acc, hi, h => by
    refine ⟨acc, ?_, ?_⟩
    · unfold itT itD
      rw [List.getElem?_eq_none (by omega)]
      rfl
    · have : i = ds.length := by omega
      rw [← this]; exact h
  | k + 1, i, acc, hi, h => by
    have hd : ds[i]? = some ds[i] := List.getElem?_eq_getElem (by omega)
    obtain ⟨acc1, e1, h1⟩ := hs i _ acc hd h
    obtain ⟨acc2, e2, h2⟩ := itT_ind Inv hs k (i + 1) acc1 (by omega) h1
    refine ⟨acc2, ?_, h2⟩
    unfold itT
    simp only [itD, hd, Option.map_some, e1, Option.bind_some]
    exact e2
def tB (B : Bk) : List (Key × SV) := B.map fun e => (.inl e.1, .dat (.tuple (flat e.2)))
theorem datsT_tB : ∀ {B : Bk}, datsT (tB B) = some (bD B)
  | [] => rfl
  | e :: r => by
    show (datsT (tB r)).map _ = _
    rw [datsT_tB]; rfl
theorem tPut_new {B : Bk} {i : Int} (h : i ∉ ks B) : tPut (tB B) (.inl i) (.dat (.tuple [])) = tB (B ++ [(i, [])]) := by
  unfold tPut
  rw [if_neg]
  · unfold tB
    rw [List.map_append]; rfl
  · intro z
    rw [List.any_eq_true] at z
    obtain ⟨x, hx, hz⟩ := z
    obtain ⟨e, he, rfl⟩ := List.mem_map.mp hx
    have := of_decide_eq_true hz
    simp only [Sum.inl.injEq] at this
    exact h (this ▸ List.mem_map.mpr ⟨e, he, rfl⟩)
section
variable {n m : Nat} {Q : List Pr} {t : Pr → Int} {lf rt : Int → Int} {M : Sto}
theorem roots_spec (hn : n ≤ 100) (f : FlM M n m Q t lf rt) : ∃ B : Bk, wyRoots [some (.ptr 0), none, none, none, none, none, none] M = some (.ptr M.length, M ++ [.fl (.dict (bD B))]) ∧ (ks B).Nodup ∧ (∀ e ∈ B, e.2 = [] ∧ 0 ≤ e.1 ∧ e.1 < n ∧ 0 < lf e.1) ∧ ∀ i : Int, 0 ≤ i → i < n → 0 < lf i → i ∈ ks B := by
  obtain ⟨acc, e, B, ha, nd, h1, h2⟩ := itT_ind (ds := rngD 0 n) (step := tStep (gNm 3) (tVal (dBin oGt (dIx (dFld "Flow" "left" (dVar 0)) (dVar 3)) (dC (.int 0)))) [3] (dVar 3) (dTup dNil) [some (.ptr 0), none, none, none, none, none, none]) (M := M)
    (fun i acc => ∃ B : Bk, acc = tB B ∧ (ks B).Nodup ∧ (∀ e ∈ B, e.2 = [] ∧ 0 ≤ e.1 ∧ e.1 < i ∧ 0 < lf e.1) ∧ ∀ k : Int, 0 ≤ k → k < i → 0 < lf k → k ∈ ks B) (fun i d acc hd ⟨B, ha, nd, h1, h2⟩ => by
      subst ha
      have hi : i < n := by
        have := (List.getElem?_eq_some_iff.mp hd).1
        rwa [rngD_length] at this
      rw [rngD_get hi, Int.zero_add] at hd
      cases hd
      have hin : (i : Int) ∉ ks B := fun z => by
        obtain ⟨e, he, e2⟩ := List.mem_map.mp z
        have := (h1 e he).2.2.1
        omega
      have hB : B.length ≤ n := by
        have := nodup_le (n := n) nd fun k hk => by
          obtain ⟨e, he, rfl⟩ := List.mem_map.mp hk
          have := h1 e he
          omega
        rwa [List.length_map] at this
      have hl := lI_at (n := n) (f := lf) (i := i) ⟨by omega, by omega⟩
      have f1 := f.o
      have f2 := f.l
      have et : tVal (dBin oGt (dIx (dFld "Flow" "left" (dVar 0)) (dVar 3)) (dC (.int 0))) [some (.ptr 0), none, none, some (.dat (.int i)), none, none, none] M = some (decide (0 < lf i), M) := by
        generalize lI n lf = L at *
        simp [f1, fl_left, f2, hl, -atI_nn]
      have e1 : gNm 3 (.dat (.int i)) M (wipeG [some (.ptr 0), none, none, none, none, none, none] [3]) = some [some (.ptr 0), none, none, some (.dat (.int i)), none, none, none] := rfl
      by_cases h0 : 0 < lf i
      · rw [decide_eq_true h0] at et
        refine ⟨tB (B ++ [((i : Int), [])]), ?_, B ++ [((i : Int), [])], rfl, ?_, fun e he => ?_, fun k g1 g2 g3 => ?_⟩
        · unfold tStep
          rw [e1, Option.bind_some, et, Option.bind_some, if_pos rfl]
          have hk : keyS (.dat (.int i)) = some (.inl (i : Int)) := rfl
          have hlen : (tB B).length < LIM := by
            unfold tB
            rw [List.length_map, lim_e]; omega
          have hv : dVar 3 [some (.ptr 0), none, none, some (.dat (.int i)), none, none, none] M = some (.dat (.int i), M) := rfl
          have hw : dTup dNil [some (.ptr 0), none, none, some (.dat (.int i)), none, none, none] M = some (.dat (.tuple []), M) := by simp
          simp only [hv, hw, Option.bind_some, hk]
          rw [if_pos hlen, tPut_new hin]
        · show (List.map Prod.fst (B ++ [((i : Int), ([] : List Pr))])).Nodup
          rw [List.map_append, List.nodup_append]
          refine ⟨nd, by simp, fun a ha b hb e => ?_⟩
          have hb : b = i := by simpa using hb
          rw [e, hb] at ha
          exact hin ha
        · rcases List.mem_append.mp he with he | he
          · have := h1 e he
            exact ⟨this.1, this.2.1, by omega, this.2.2.2⟩
          · rw [List.mem_singleton.mp he]
            exact ⟨rfl, by omega, by omega, h0⟩
        · by_cases hk : k = i
          · exact ks_app.mpr (.inr hk)
          · exact ks_app.mpr (.inl (h2 k g1 (by omega) g3))
      · rw [decide_eq_false h0] at et
        refine ⟨tB B, ?_, B, rfl, nd, fun e he => ?_, fun k g1 g2 g3 => ?_⟩
        · unfold tStep
          rw [e1, Option.bind_some, et, Option.bind_some, if_neg Bool.false_ne_true]
        · have := h1 e he
          exact ⟨this.1, this.2.1, by omega, this.2.2.2⟩
        · by_cases hk : k = i
          · subst hk
            exact absurd g3 h0
          · exact h2 k g1 (by omega) g3) n 0 [] (by rw [rngD_length]; omega) ⟨[], rfl, by simp, (fun e h => by simp at h), fun k g1 g2 => by omega⟩
  subst ha
  rw [rngD_length] at h1 h2
  refine ⟨B, ?_, nd, h1, h2⟩
  unfold wyRoots dCompT
  rw [many_e f rfl (by omega), Option.bind_some]
  simp only [rngD_length]
  rw [e, Option.bind_some]
  unfold finT
  rw [if_pos rfl]
  unfold dcCell
  rw [datsT_tB]
/-- no way is left -/
def WayNo (n m : Nat) (Q : List Pr) (t : Pr → Int) (lf rt : Int → Int) (S : List Int) : Prop :=
  S.Nodup ∧ (S.Pairwise fun a b => a ≤ b) ∧ (∀ i ∈ S, 0 ≤ i ∧ i < n) ∧ (∀ i ∈ S, Cl n Q t rt S i) ∧ (∀ i : Int, 0 ≤ i → i < n → 0 < lf i → i ∈ S) ∧ (S ≠ [] → ∃ i ∈ S, 0 < lf i)
theorem hd1_mem {ps : List Pr} {k : Int} {K : List Int} (h : ∀ p ∈ ps, p.1 ∈ K) (hk : k ∈ K) : hd1 ps k ∈ K := by
  cases ps with
  | nil => exact hk
  | cons p r => exact h p List.mem_cons_self
theorem way_spec (hn : n ≤ 30) (hQ : Q.length ≤ 1000) (F : Fl n m Q t lf rt) (f : FlM M n m Q t lf rt) :
    ∃ d M', g_Flow_way [.ptr 0] M = some (.ok (.dat d), M') ∧ FlM M' n m Q t lf rt ∧
      ((∃ ps k j L, d = .tuple [.tuple (flat (ps ++ [(k, j)])), L] ∧ GP n Q t lf ps k ∧ (k, j) ∈ Q ∧ 0 < rt j) ∨ ∃ S, d = .tuple [.none, .list (S.map .int)] ∧ WayNo n m Q t lf rt S) := by
  obtain ⟨B, e1, nd, h1, h2⟩ := roots_spec (by omega) f
  have hB : B.length ≤ n := by
    have := nodup_le (n := n) nd fun k hk => by
      obtain ⟨e, he, rfl⟩ := List.mem_map.mp hk
      have := h1 e he
      omega
    rwa [List.length_map] at this
  have h4 := f.len
  have hb : (M ++ [.fl (.dict (bD B))])[M.length]? = some (.fl (.dict (bD B))) := by simp
  have hs := sorted_b (B := B) (by rw [lim_e]; omega)
  have e2 : sAsg 2 (dCB bSorted (dCons (dVar 1) dNil) true) [some (.ptr 0), some (.ptr M.length), none, none, none, none, none] (M ++ [.fl (.dict (bD B))]) = some (.nx, [some (.ptr 0), some (.ptr M.length), some (.ptr (M.length + 1)), none, none, none, none], M ++ [.fl (.dict (bD B)), .fl (.list ((srtI (ks B)).map .int))]) := by
    generalize PyData.dict (bD B) = BD at *
    generalize (srtI (ks B)).map PyData.int = S at *
    simp [hs]
  have s : SW (M ++ [.fl (.dict (bD B)), .fl (.list ((srtI (ks B)).map .int))]) n m Q t lf rt M.length B (srtI (ks B)) := by
    refine ⟨f.app, h4, by simp, ?_⟩
    rw [List.getElem?_append_right (by omega)]
    simp
  have w : WI n Q t lf rt B (srtI (ks B)) [] 0 := by
    refine ⟨nd, fun e he => ?_, fun e he p hp => ?_, fun e he => ?_, h2, fun x hx => srtI_mem.mp hx, fun i hi h _ => absurd (srtI_mem.mpr hi) h, ?_⟩
    · have := h1 e he
      rw [this.1]
      exact .root ⟨this.2.1, this.2.2.1⟩ this.2.2.2
    · rw [(h1 e he).1] at hp
      cases hp
    · rw [(h1 e he).1]
      exact List.length_pos_of_mem he
    · unfold srtI
      rw [List.length_mergeSort, List.length_map]; rfl
  obtain ⟨r, e3, h⟩ := while_spec (x3 := none) (x4 := none) (x5 := none) (x6 := none) (by omega) hQ (fun p hp => (F.rng p hp).2) F.sup 40 s w (by
    unfold srtI
    rw [List.length_mergeSort, List.length_map]; omega)
  have e0 : sAsg 1 wyRoots [some (.ptr 0), none, none, none, none, none, none] M = some (.nx, [some (.ptr 0), some (.ptr M.length), none, none, none, none, none], M ++ [.fl (.dict (bD B))]) := by
    rw [sAsg_e, e1]; rfl
  rw [way_eq, dFun_e]
  show ∃ d M', ((sSeq _ _) [some (SV.ptr 0), none, none, none, none, none, none] M).bind _ = _ ∧ _
  rw [seq_nx e0, seq_nx e2]
  rcases h with ⟨M', Γ', ps, k, j, L, rfl, hf, hg, hq, hj⟩ | ⟨y3, y4, y5, M', B', c', rfl, s', w'⟩
  · refine ⟨_, M', ?_, hf, .inl ⟨ps, k, j, L, rfl, hg, hq, hj⟩⟩
    rw [seq_rt (by rw [sWhile_e]; exact e3)]
    rfl
  · have hs' := sorted_b (B := B') (by have := w'.le; rw [lim_e]; omega)
    have hb' := s'.bb
    refine ⟨.tuple [.none, .list ((srtI (ks B')).map .int)], M', ?_, s'.f, .inr ⟨srtI (ks B'), rfl, srtI_nd w'.nd, srtI_pw _, fun i hi => w'.rng i (srtI_mem.mp hi), fun i hi => (w'.cl i (srtI_mem.mp hi) (by simp) (by simp)).mono fun k hk => srtI_mem.mpr hk, fun i g1 g2 g3 => srtI_mem.mpr (w'.rk i g1 g2 g3), fun hne => ?_⟩⟩
    · rw [seq_nx (by rw [sWhile_e]; exact e3)]
      generalize PyData.dict (bD B') = BD at *
      generalize (srtI (ks B')).map PyData.int = S at *
      simp [hb', hs', lim_e]
    · cases hS : srtI (ks B') with
      | nil => exact absurd hS hne
      | cons i r =>
        have hi : i ∈ ks B' := srtI_mem.mp (by rw [hS]; exact List.mem_cons_self)
        obtain ⟨e, he, rfl⟩ := List.mem_map.mp hi
        have ha := (adj_ok F (w'.gp e he)).root
        exact ⟨hd1 e.2 e.1, by rw [← hS]; exact srtI_mem.mpr (hd1_mem (w'.pk e he) hi), ha.2⟩
end
end K02
namespace K02
open PySem PySem.Spec PyProof.Rows L2 EL

/-- what the loop sends -/
def sendL : (Pr → Int) → List Pr → (Pr → Int)
  | t, [] => t
  | t, [p] => bump t p 1
  | t, p :: q :: r => sendL (bump (bump t p 1) (q.1, p.2) (-1)) (q :: r)
theorem sendL_sent : ∀ (ps : List Pr) (t : Pr → Int) (k j : Int), sendL t (ps ++ [(k, j)]) = sent t ps k j
  | [], t, k, j => rfl
  | [p], t, k, j => rfl
  | p :: q :: r, t, k, j => sendL_sent (q :: r) (bump (bump t p 1) (q.1, p.2) (-1)) k j
def OkW (Q : List Pr) : List Pr → Prop
  | [] => True
  | [p] => p ∈ Q
  | p :: q :: r => p ∈ Q ∧ (q.1, p.2) ∈ Q ∧ OkW Q (q :: r)
theorem okW_snoc {Q : List Pr} {p q : Pr} (h2 : (q.1, p.2) ∈ Q) (h3 : q ∈ Q) : ∀ {l : List Pr}, OkW Q (l ++ [p]) → OkW Q (l ++ [p] ++ [q])
  | [], h => ⟨h, h2, h3⟩
  | [a], h => ⟨h.1, h.2.1, okW_snoc h2 h3 (l := []) h.2.2⟩
  | a :: b :: r, h => ⟨h.1, h.2.1, okW_snoc h2 h3 (l := b :: r) h.2.2⟩
theorem gp_okW {n : Nat} {Q : List Pr} {t : Pr → Int} {lf : Int → Int} (sup : ∀ p, t p ≠ 0 → p ∈ Q) {ps : List Pr} {k : Int} (g : GP n Q t lf ps k) : ∀ {j : Int}, (k, j) ∈ Q → OkW Q (ps ++ [(k, j)]) := by
  induction g with
  | root h h0 => intro j hj; exact hj
  | @snoc ps i j k g hq ht h hk hi ih =>
    intro j' hj'
    exact okW_snoc (sup (k, j) (by omega)) hj' (ih hq)
theorem flat_0 : ∀ {P : List Pr} {i : Nat} {p : Pr}, P[i]? = some p → (flat P)[2 * i]? = some (.int p.1)
  | [], _, _, h => by simp at h
  | q :: r, 0, p, h => by
    have : q = p := by simpa using h
    rw [this]; rfl
  | q :: r, i + 1, p, h => by
    have ih := flat_0 (P := r) (i := i) (p := p) (by simpa using h)
    show (PyData.int q.1 :: .int q.2 :: flat r)[2 * i + 1 + 1]? = _
    rw [List.getElem?_cons_succ, List.getElem?_cons_succ, ih]
theorem flat_1 : ∀ {P : List Pr} {i : Nat} {p : Pr}, P[i]? = some p → (flat P)[2 * i + 1]? = some (.int p.2)
  | [], _, _, h => by simp at h
  | q :: r, 0, p, h => by
    have : q = p := by simpa using h
    rw [this]; rfl
  | q :: r, i + 1, p, h => by
    have ih := flat_1 (P := r) (i := i) (p := p) (by simpa using h)
    show (PyData.int q.1 :: .int q.2 :: flat r)[2 * i + 1 + 1 + 1]? = _
    rw [List.getElem?_cons_succ, List.getElem?_cons_succ, ih]
abbrev snA : DS := sAugSub oIAdd (dFld "Flow" "table" (dVar 0)) (dTup (dCons (dIx (dVar 1) (dVar 2)) (dCons (dIx (dVar 1) (dBin oAdd (dVar 2) (dC (.int 1)))) dNil))) (dC (.int 1))
abbrev snB : DS := sAugSub oSub (dFld "Flow" "table" (dVar 0)) (dTup (dCons (dIx (dVar 1) (dBin oAdd (dVar 2) (dC (.int 2)))) (dCons (dIx (dVar 1) (dBin oAdd (dVar 2) (dC (.int 1)))) dNil))) (dC (.int 1))
abbrev snT : DT := tVal (dBin oLt (dBin oAdd (dVar 2) (dC (.int 2))) (dLen (dVar 1)))
abbrev snL : DS := sFor (iRngC (dCons (dC (.int 0)) (dCons (dLen (dVar 1)) (dCons (dC (.int 2)) dNil)))) (gNm 2) (sSeq snA (sIf snT snB sNil))
abbrev snX : DS := sAugSub oSub (dFld "Flow" "left" (dVar 0)) (dIx (dVar 1) (dC (.int 0))) (dC (.int 1))
abbrev snY : DS := sAugSub oSub (dFld "Flow" "right" (dVar 0)) (dIx (dVar 1) (dUn oNeg (dC (.int 1)))) (dC (.int 1))
theorem send_eq : g_Flow_send = dFun 3 (sSeq snL (sSeq snX snY)) false true := rfl
section
variable {n m : Nat} {Q : List Pr} {t : Pr → Int} {lf rt : Int → Int} {M : Sto}
theorem ix_tab {p : Pr} (hp : p ∈ Q) : ixD (tab (tb Q t)) (kd p) = some (.dat (.int (t p))) := by
  unfold tab
  rw [ixD_dict dk_tab]
  show (dLook ((tb Q t).map ent) (kd p)).map _ = _
  rw [dLook_ent, look_tb, if_pos hp]; rfl
theorem set_tab {p : Pr} {v : Int} (hp : p ∈ Q) (hl : Q.length ≤ 1000) : oSet (.fl (tab (tb Q t))) (kd p) (.dat (.int (t p + v))) = some (.fl (tab (tb Q (bump t p v)))) := by
  have h1 : keyOk (kd p) = true ∧ ((tb Q t).map ent).length < LIM := ⟨keyOk_kd p, by unfold tb; rw [List.length_map, List.length_map, lim_e]; omega⟩
  show (if keyOk (kd p) = true ∧ ((tb Q t).map ent).length < LIM then some (Cell.fl (.dict ((.none, .none) :: dPut ((tb Q t).map ent) (kd p) (.int (t p + v))))) else none) = _
  rw [if_pos h1, put_tb hp]; rfl
theorem FlM.put (f : FlM M n m Q t lf rt) {t' : Pr → Int} : FlM (M.set 3 (.fl (tab (tb Q t')))) n m Q t' lf rt := by
  have h := (List.getElem?_eq_some_iff.mp f.tt).1
  exact ⟨by rw [List.getElem?_set_ne (by omega)]; exact f.o, by rw [List.getElem?_set_ne (by omega)]; exact f.l, by rw [List.getElem?_set_ne (by omega)]; exact f.r, by rw [List.getElem?_set_self h]⟩
theorem snA_run {L : List D} {a x y : Int} (f : FlM M n m Q t lf rt) (h1 : atI L a = some (.int x)) (h2 : atI L (a + 1) = some (.int y)) (hp : (x, y) ∈ Q) (hl : Q.length ≤ 1000) :
    snA [some (.ptr 0), some (.dat (.tuple L)), some (.dat (.int a))] M = some (.nx, [some (.ptr 0), some (.dat (.tuple L)), some (.dat (.int a))], M.set 3 (.fl (tab (tb Q (bump t (x, y) 1))))) := by
  have f1 := f.o
  have f2 := f.tt
  have i1 := ix_tab (t := t) hp
  have i2 := set_tab (t := t) (v := 1) hp hl
  have hk : kd (x, y) = .tuple [.int x, .int y] := rfl
  rw [hk] at i1 i2
  generalize tab (tb Q t) = T at *
  generalize tab (tb Q (bump t (x, y) 1)) = T' at *
  simp [f1, fl_table, h1, h2, lim_e, f2, i1, i2, -atI_nn]
theorem snB_run {L : List D} {a x y : Int} (f : FlM M n m Q t lf rt) (h1 : atI L (a + 2) = some (.int x)) (h2 : atI L (a + 1) = some (.int y)) (hp : (x, y) ∈ Q) (hl : Q.length ≤ 1000) :
    snB [some (.ptr 0), some (.dat (.tuple L)), some (.dat (.int a))] M = some (.nx, [some (.ptr 0), some (.dat (.tuple L)), some (.dat (.int a))], M.set 3 (.fl (tab (tb Q (bump t (x, y) (-1)))))) := by
  have f1 := f.o
  have f2 := f.tt
  have i1 := ix_tab (t := t) hp
  have i2 := set_tab (t := t) (v := -1) hp hl
  have hk : kd (x, y) = .tuple [.int x, .int y] := rfl
  rw [hk, ← Int.sub_eq_add_neg] at i2
  rw [hk] at i1
  generalize tab (tb Q t) = T at *
  generalize tab (tb Q (bump t (x, y) (-1))) = T' at *
  simp [f1, fl_table, h1, h2, lim_e, f2, i1, i2, -atI_nn]
theorem snT_run {L : List D} {a : Int} {x : Option SV} : snT [x, some (.dat (.tuple L)), some (.dat (.int a))] M = some (decide (a + 2 < (L.length : Int)), M) := by
  simp
theorem size2 {k : Nat} : Builtin.Range.rangeSize 0 ((2 * k : Nat) : Int) 2 = (k : Int) := by
  unfold Builtin.Range.rangeSize
  rw [if_pos (by decide)]
  split <;> omega
theorem rng_e {L : List D} {k : Nat} {x y : Option SV} (h : L.length = 2 * k) (hk : k ≤ 1000) : iRngC (dCons (dC (.int 0)) (dCons (dLen (dVar 1)) (dCons (dC (.int 2)) dNil))) [x, some (.dat (.tuple L)), y] M = some ((itD (rngC 0 2 k), (rngC 0 2 k).length), M) := by
  have e1 : (dCons (dC (.int 0)) (dCons (dLen (dVar 1)) (dCons (dC (.int 2)) dNil))) [x, some (.dat (.tuple L)), y] M = some ([.dat (.int 0), .dat (.int (L.length : Nat)), .dat (.int 2)], M) := by
    simp
  rw [iRngC_e, e1, Option.bind_some, h, rgc_e (n := k) (by omega) (by omega) (by omega) (by omega) (by omega) (by omega) size2, itC_D, rngC_length]
theorem turn_1 {L : List D} {p : Pr} {a : Int} (f : FlM M n m Q t lf rt) (a0 : atI L a = some (.int p.1)) (a1 : atI L (a + 1) = some (.int p.2)) (hp : p ∈ Q) (hl : Q.length ≤ 1000) (h : ¬ a + 2 < (L.length : Int)) :
    (sSeq snA (sIf snT snB sNil)) [some (.ptr 0), some (.dat (.tuple L)), some (.dat (.int a))] M = some (.nx, [some (.ptr 0), some (.dat (.tuple L)), some (.dat (.int a))], M.set 3 (.fl (tab (tb Q (bump t p 1))))) := by
  have hT := snT_run (L := L) (a := a) (x := some (.ptr 0)) (M := M.set 3 (.fl (tab (tb Q (bump t p 1)))))
  rw [decide_eq_false h] at hT
  rw [seq_nx (snA_run f a0 a1 hp hl), if_f hT]
  exact sNil_e
theorem turn_2 {L : List D} {p q : Pr} {a : Int} (f : FlM M n m Q t lf rt) (a0 : atI L a = some (.int p.1)) (a1 : atI L (a + 1) = some (.int p.2)) (a2 : atI L (a + 2) = some (.int q.1)) (hp : p ∈ Q) (hq : (q.1, p.2) ∈ Q) (hl : Q.length ≤ 1000) (h : a + 2 < (L.length : Int)) :
    (sSeq snA (sIf snT snB sNil)) [some (.ptr 0), some (.dat (.tuple L)), some (.dat (.int a))] M = some (.nx, [some (.ptr 0), some (.dat (.tuple L)), some (.dat (.int a))], (M.set 3 (.fl (tab (tb Q (bump t p 1))))).set 3 (.fl (tab (tb Q (bump (bump t p 1) (q.1, p.2) (-1)))))) := by
  have hT := snT_run (L := L) (a := a) (x := some (.ptr 0)) (M := M.set 3 (.fl (tab (tb Q (bump t p 1)))))
  rw [decide_eq_true h] at hT
  rw [seq_nx (snA_run f a0 a1 hp hl), if_t hT]
  exact snB_run f.put a2 a1 hq hl
theorem turn_ok {P : List Pr} {i : Nat} {L : List D} (hL : L.length = 2 * P.length) (g0 : ∀ i p, P[i]? = some p → atI L ((2 * i : Nat) : Int) = some (.int p.1)) (g1 : ∀ i p, P[i]? = some p → atI L ((2 * i + 1 : Nat) : Int) = some (.int p.2)) (f : FlM M n m Q t lf rt) (ok : OkW Q (P.drop i)) (hl : Q.length ≤ 1000) (hi : i < P.length) :
    ∃ M' t', (sSeq snA (sIf snT snB sNil)) [some (.ptr 0), some (.dat (.tuple L)), some (.dat (.int ((2 * i : Nat) : Int)))] M = some (.nx, [some (.ptr 0), some (.dat (.tuple L)), some (.dat (.int ((2 * i : Nat) : Int)))], M') ∧ FlM M' n m Q t' lf rt ∧ sendL t' (P.drop (i + 1)) = sendL t (P.drop i) ∧ OkW Q (P.drop (i + 1)) := by
  have hp : P[i]? = some P[i] := List.getElem?_eq_getElem hi
  have hd : P.drop i = P[i] :: P.drop (i + 1) := List.drop_eq_getElem_cons hi
  have a0 := g0 i _ hp
  have a1 := g1 i _ hp
  have e1 : ((2 * i + 1 : Nat) : Int) = ((2 * i : Nat) : Int) + 1 := by omega
  rw [e1] at a1
  rw [hd] at ok ⊢
  generalize P[i] = p at *
  cases hr : P.drop (i + 1) with
  | nil =>
    rw [hr] at ok
    have hlen : P.length ≤ i + 1 := List.drop_eq_nil_iff.mp hr
    exact ⟨_, _, turn_1 f a0 a1 ok hl (by omega), f.put, rfl, trivial⟩
  | cons q r =>
    rw [hr] at ok
    have hlen : i + 1 < P.length := by
      refine Nat.lt_of_not_le fun z => ?_
      rw [List.drop_eq_nil_iff.mpr z] at hr
      cases hr
    have hq : P[i + 1]? = some q := by
      have := congrArg List.head? hr
      rwa [List.head?_drop] at this
    have a2 := g0 (i + 1) _ hq
    have e2 : ((2 * (i + 1) : Nat) : Int) = ((2 * i : Nat) : Int) + 2 := by omega
    rw [e2] at a2
    exact ⟨_, _, turn_2 f a0 a1 a2 ok.1 ok.2.1 hl (by omega), f.put.put, rfl, ok.2.2⟩
theorem loop_L {P : List Pr} {L : List D} (hL : L.length = 2 * P.length) (g0 : ∀ i p, P[i]? = some p → atI L ((2 * i : Nat) : Int) = some (.int p.1)) (g1 : ∀ i p, P[i]? = some p → atI L ((2 * i + 1 : Nat) : Int) = some (.int p.2)) (f : FlM M n m Q t lf rt) (ok : OkW Q P) (hl : Q.length ≤ 1000) (hP : P.length ≤ 1000) :
    ∃ a M', snL [some (.ptr 0), some (.dat (.tuple L)), none] M = some (.nx, [some (.ptr 0), some (.dat (.tuple L)), a], M') ∧ FlM M' n m Q (sendL t P) lf rt := by
  obtain ⟨Γ', M', e, ⟨a, hΓ⟩, t', f', h', _⟩ := sFor_all (tg := gNm 2) (body := sSeq snA (sIf snT snB sNil)) (rng_e (x := some (.ptr 0)) (y := none) (M := M) hL hP)
    (fun i Γ M => (∃ a, Γ = [some (.ptr 0), some (.dat (.tuple L)), a]) ∧ ∃ t', FlM M n m Q t' lf rt ∧ sendL t' (P.drop i) = sendL t P ∧ OkW Q (P.drop i)) ⟨⟨none, rfl⟩, t, f, rfl, ok⟩ fun i d Γ M hd ⟨⟨a, hΓ⟩, t', f', h', ok'⟩ => by
      subst hΓ
      have hi : i < P.length := by
        have := (List.getElem?_eq_some_iff.mp hd).1
        rwa [rngC_length] at this
      have e0 : (0 : Int) + (i : Int) * 2 = ((2 * i : Nat) : Int) := by omega
      rw [rngC_get hi, e0] at hd
      cases hd
      obtain ⟨M2, t2, e2, f2, h2, ok2⟩ := turn_ok hL g0 g1 f' ok' hl hi
      exact ⟨_, _, M2, rfl, e2, ⟨_, rfl⟩, t2, f2, h2.trans h', ok2⟩
  subst hΓ
  rw [rngC_length, List.drop_length] at h'
  have h' : t' = sendL t P := h'
  rw [h'] at f'
  exact ⟨a, M', e, f'⟩
theorem loop_spec {P : List Pr} (f : FlM M n m Q t lf rt) (ok : OkW Q P) (hl : Q.length ≤ 1000) (hP : P.length ≤ 1000) :
    ∃ a M', snL [some (.ptr 0), some (.dat (.tuple (flat P))), none] M = some (.nx, [some (.ptr 0), some (.dat (.tuple (flat P))), a], M') ∧ FlM M' n m Q (sendL t P) lf rt :=
  loop_L flat_len (fun i p h => EL.atI_nat (flat_0 h)) (fun i p h => EL.atI_nat (flat_1 h)) f ok hl hP
theorem atI_last {L : List D} {d : D} : atI (L ++ [d]) (-1) = some d := by
  unfold atI ixN
  rw [if_neg (by omega), if_pos (by simp; omega)]
  have : (-1 + ((L ++ [d]).length : Int)).toNat = L.length := by
    rw [List.length_append, List.length_singleton]; omega
  rw [Option.bind_some, this]
  simp
theorem snX_run {L : List D} {i : Int} {a : Option SV} (f : FlM M n m Q t lf rt) (h1 : atI L 0 = some (.int i)) (hi : 0 ≤ i ∧ i < n) : snX [some (.ptr 0), some (.dat (.tuple L)), a] M = some (.nx, [some (.ptr 0), some (.dat (.tuple L)), a], M.set 1 (.fl (.list (lI n (upd1 lf i (lf i - 1)))))) := by
  have f1 := f.o
  have f2 := f.l
  have h2 := lI_at (f := lf) hi
  have h3 := lI_set (n := n) (f := lf) (v := lf i - 1) hi.1
  have h4 := lI_len (n := n) (f := lf)
  generalize lI n lf = K at *
  simp [f1, fl_left, h1, f2, h2, h4, hi.1, hi.2, h3, -atI_nn]
theorem snY_run {L : List D} {i : Int} {a : Option SV} (f : FlM M n m Q t lf rt) (h1 : atI L (-1) = some (.int i)) (hi : 0 ≤ i ∧ i < m) : snY [some (.ptr 0), some (.dat (.tuple L)), a] M = some (.nx, [some (.ptr 0), some (.dat (.tuple L)), a], M.set 2 (.fl (.list (lI m (upd1 rt i (rt i - 1)))))) := by
  have f1 := f.o
  have f2 := f.r
  have h2 := lI_at (f := rt) hi
  have h3 := lI_set (n := m) (f := rt) (v := rt i - 1) hi.1
  have h4 := lI_len (n := m) (f := rt)
  generalize lI m rt = K at *
  simp [f1, fl_right, h1, f2, h2, h4, hi.1, hi.2, h3, -atI_nn]
theorem send_spec {ps : List Pr} {k j : Int} (f : FlM M n m Q t lf rt) (F : Fl n m Q t lf rt) (g : GP n Q t lf ps k) (hq : (k, j) ∈ Q) (hl : Q.length ≤ 1000) (hp : ps.length ≤ 900) :
    ∃ M', g_Flow_send [.ptr 0, .dat (.tuple (flat (ps ++ [(k, j)])))] M = some (.ok (.dat .none), M') ∧ FlM M' n m Q (sent t ps k j) (upd1 lf (hd1 ps k) (lf (hd1 ps k) - 1)) (upd1 rt j (rt j - 1)) := by
  obtain ⟨a, M', e, f'⟩ := loop_spec f (gp_okW F.sup g hq) hl (by rw [List.length_append, List.length_singleton]; omega)
  rw [sendL_sent] at f'
  have hr := (adj_ok F g).root.1
  have h0 : atI (flat (ps ++ [(k, j)])) 0 = some (.int (hd1 ps k)) := by
    have : (ps ++ [(k, j)])[0]? = some (match ps with | [] => (k, j) | p :: _ => p) := by cases ps <;> rfl
    have := EL.atI_nat (flat_0 this)
    refine this.trans ?_
    cases ps <;> rfl
  have h1 : atI (flat (ps ++ [(k, j)])) (-1) = some (.int j) := by
    have : flat (ps ++ [(k, j)]) = (flat ps ++ [.int k]) ++ [.int j] := by
      rw [flat_app, List.append_assoc]; rfl
    rw [this, atI_last]
  have f1 : FlM (M'.set 1 (.fl (.list (lI n (upd1 lf (hd1 ps k) (lf (hd1 ps k) - 1)))))) n m Q (sent t ps k j) (upd1 lf (hd1 ps k) (lf (hd1 ps k) - 1)) rt := by
    have h := f'.len
    exact ⟨by rw [List.getElem?_set_ne (by omega)]; exact f'.o, by rw [List.getElem?_set_self (by omega)], by rw [List.getElem?_set_ne (by omega)]; exact f'.r, by rw [List.getElem?_set_ne (by omega)]; exact f'.tt⟩
  refine ⟨(M'.set 1 (.fl (.list (lI n (upd1 lf (hd1 ps k) (lf (hd1 ps k) - 1)))))).set 2 (.fl (.list (lI m (upd1 rt j (rt j - 1))))), ?_, ?_⟩
  · rw [send_eq, dFun_e]
    show ((sSeq _ _) [some (SV.ptr 0), some (.dat (.tuple (flat (ps ++ [(k, j)])))), none] M).bind _ = _
    rw [seq_nx e, seq_nx (snX_run f' h0 hr), snY_run f1 h1 (F.rng _ hq).2]
    rfl
  · have h := f1.len
    exact ⟨by rw [List.getElem?_set_ne (by omega)]; exact f1.o, by rw [List.getElem?_set_ne (by omega)]; exact f1.l, by rw [List.getElem?_set_self (by omega)], by rw [List.getElem?_set_ne (by omega)]; exact f1.tt⟩
end
end K02
namespace K02
open PySem PySem.Spec PyProof.Rows L2 EL

theorem gp_nd {n : Nat} {Q : List Pr} {t : Pr → Int} {lf : Int → Int} {ps : List Pr} {k : Int} (g : GP n Q t lf ps k) : (ps.map (·.1) ++ [k]).Nodup ∧ ∀ i ∈ ps.map (·.1) ++ [k], 0 ≤ i ∧ i < n := by
  induction g with
  | @root k h h0 => exact ⟨by simp, fun i hi => by
      have : i = k := by simpa using hi
      rw [this]; exact h⟩
  | @snoc ps i j k g hq ht h hk hi ih =>
    have e : (ps ++ [(i, j)]).map (·.1) = ps.map (·.1) ++ [i] := by rw [List.map_append]; rfl
    rw [e]
    refine ⟨?_, fun x hx => ?_⟩
    · rw [List.nodup_append]
      refine ⟨ih.1, by simp, fun a ha b hb e => ?_⟩
      have hb : b = k := by simpa using hb
      rw [e, hb] at ha
      rcases List.mem_append.mp ha with ha | ha
      · exact hk ha
      · exact hi (List.mem_singleton.mp ha)
    · rcases List.mem_append.mp hx with hx | hx
      · exact ih.2 x hx
      · rw [List.mem_singleton.mp hx]; exact h
theorem gp_len {n : Nat} {Q : List Pr} {t : Pr → Int} {lf : Int → Int} {ps : List Pr} {k : Int} (g : GP n Q t lf ps k) : ps.length < n := by
  have h := gp_nd g
  have := nodup_le h.1 h.2
  rw [List.length_append, List.length_map, List.length_singleton] at this
  omega
theorem itN_ind {ds : List D} {step : NSt} {M : Sto} (Inv : Nat → List (D × D) → Prop) (hs : ∀ i d acc, ds[i]? = some d → Inv i acc → ∃ acc', step (.dat d) M acc = some (acc', M) ∧ Inv (i + 1) acc') :
    ∀ (k i : Nat) (acc : List (D × D)), i + k = ds.length → Inv i acc → ∃ acc', itN (itD ds) step (k + 1) i M acc = some (acc', M) ∧ Inv ds.length acc'
  | 0, i, acc, hi, h => by
    refine ⟨acc, ?_, ?_⟩
    · unfold itN itD
      rw [List.getElem?_eq_none (by omega)]
      rfl
    · have : i = ds.length := by omega
      rw [← this]; exact h
  | k + 1, i, acc, hi, h => by
    have hd : ds[i]? = some ds[i] := List.getElem?_eq_getElem (by omega)
    obtain ⟨acc1, e1, h1⟩ := hs i _ acc hd h
    obtain ⟨acc2, e2, h2⟩ := itN_ind Inv hs k (i + 1) acc1 (by omega) h1
    refine ⟨acc2, ?_, h2⟩
    unfold itN
    simp only [itD, hd, Option.map_some, e1, Option.bind_some]
    exact e2
abbrev z0 : Pr → Int := fun _ => 0
theorem put_new {Q : List Pr} {p : Pr} (h : p ∉ Q) : dPut ((tb Q z0).map ent) (kd p) (.int 0) = (tb (Q ++ [p]) z0).map ent := by
  unfold dPut
  rw [dHas_ent, keys_tb, decide_eq_false h, if_neg Bool.false_ne_true]
  unfold tb
  rw [List.map_append, List.map_append]; rfl
abbrev inTab : DE := dCompN (iSeq (dVar 3)) (nStep (gNm 4) tYes_ [4] (dVar 4) (dC (.int 0)))
theorem tab_spec {Q : List Pr} {M : Sto} {a b c : Option SV} (nd : Q.Nodup) (hl : Q.length ≤ 1000) : inTab [a, b, c, some (.dat (.list (Q.map kd))), none] M = some (.ptr M.length, M ++ [.fl (tab (tb Q z0))]) := by
  obtain ⟨acc, e, he⟩ := itN_ind (ds := Q.map kd) (step := nStep (gNm 4) tYes_ [4] (dVar 4) (dC (.int 0)) [a, b, c, some (.dat (.list (Q.map kd))), none]) (M := M) (fun i acc => acc = (tb (Q.take i) z0).map ent) (fun i d acc hd ha => by
    subst ha
    rw [List.getElem?_map] at hd
    obtain ⟨p, hp, rfl⟩ := Option.map_eq_some_iff.mp hd
    refine ⟨_, ?_, rfl⟩
    have hnot : p ∉ Q.take i := fun z => by
      have h1 : (Q.take (i + 1)).Nodup := nd.sublist (List.take_sublist _ _)
      rw [List.take_add_one, hp, List.nodup_append] at h1
      exact h1.2.2 p z p (by simp) rfl
    have e1 : gNm 4 (.dat (kd p)) M (wipeG [a, b, c, some (.dat (.list (Q.map kd))), none] [4]) = some [a, b, c, some (.dat (.list (Q.map kd))), some (.dat (kd p))] := rfl
    have hlen : ((tb (Q.take i) z0).map ent).length < LIM := by
      unfold tb
      rw [List.length_map, List.length_map, List.length_take, lim_e]; omega
    have hv : dVar 4 [a, b, c, some (.dat (.list (Q.map kd))), some (.dat (kd p))] M = some (.dat (kd p), M) := rfl
    have hw : dC (.int 0) [a, b, c, some (.dat (.list (Q.map kd))), some (.dat (kd p))] M = some (.dat (.int 0), M) := rfl
    unfold nStep
    rw [e1, Option.bind_some, tYes_e, Option.bind_some, if_pos rfl]
    simp only [hv, hw, Option.bind_some]
    rw [if_pos ⟨keyOk_kd p, hlen⟩, put_new hnot, List.take_add_one, hp]; rfl) Q.length 0 [] (by simp) rfl
  rw [List.length_map, List.take_length] at he
  subst he
  have hi : iSeq (dVar 3) [a, b, c, some (.dat (.list (Q.map kd))), none] M = some ((itD (Q.map kd), (Q.map kd).length), M) := rfl
  unfold inTab dCompN
  rw [hi, Option.bind_some]
  simp only [List.length_map, e]
  rfl
theorem lI_rep {n : Nat} {c : Int} : List.replicate n (PyData.int c) = lI n (fun _ => c) := by
  unfold lI
  rw [eq_comm, List.eq_replicate_iff]
  simp
theorem sFldS_at {C f : Str} {fv fo : DE} {Γ : Ga} {M M1 M2 : Sto} {v : SV} {n : Nat} {c c' : Cell} (hv : fv Γ M = some (v, M1)) (ho : fo Γ M1 = some (.ptr n, M2)) (hc : M2[n]? = some c) (hp : obPut C f v (some c) = some c') : sFldS C f fv fo Γ M = some (.nx, Γ, M2.set n c') := by
  rw [sFldS_e, hv, Option.bind_some, ho, Option.bind_some, fsk_e, hc, hp]; rfl
section
variable {v a b c d e f : SV}
def o0 : Cell := .ob (Str.ofString "Flow") []
def o1 (a : SV) : Cell := .ob (Str.ofString "Flow") [(Str.ofString "many", a)]
def o2 (a b : SV) : Cell := .ob (Str.ofString "Flow") [(Str.ofString "many", a), (Str.ofString "others", b)]
def o3 (a b c : SV) : Cell := .ob (Str.ofString "Flow") [(Str.ofString "many", a), (Str.ofString "others", b), (Str.ofString "pairs", c)]
def o4 (a b c d : SV) : Cell := .ob (Str.ofString "Flow") [(Str.ofString "many", a), (Str.ofString "others", b), (Str.ofString "pairs", c), (Str.ofString "left", d)]
def o5 (a b c d e : SV) : Cell := .ob (Str.ofString "Flow") [(Str.ofString "many", a), (Str.ofString "others", b), (Str.ofString "pairs", c), (Str.ofString "left", d), (Str.ofString "right", e)]
def o6 (a b c d e f : SV) : Cell := .ob (Str.ofString "Flow") [(Str.ofString "many", a), (Str.ofString "others", b), (Str.ofString "pairs", c), (Str.ofString "left", d), (Str.ofString "right", e), (Str.ofString "table", f)]
theorem p1 : obPut "Flow" "many" a (some o0) = some (o1 a) := rfl
theorem p2 : obPut "Flow" "others" b (some (o1 a)) = some (o2 a b) := rfl
theorem p3 : obPut "Flow" "pairs" c (some (o2 a b)) = some (o3 a b c) := rfl
theorem p4 : obPut "Flow" "left" d (some (o3 a b c)) = some (o4 a b c d) := rfl
theorem p5 : obPut "Flow" "right" e (some (o4 a b c d)) = some (o5 a b c d e) := rfl
theorem p6 : obPut "Flow" "table" f (some (o5 a b c d e)) = some (o6 a b c d e f) := rfl
end
theorem o6_eq {n m : Nat} {Q : List Pr} : o6 (.dat (.int n)) (.dat (.int m)) (.dat (.list (Q.map kd))) (.ptr 1) (.ptr 2) (.ptr 3) = flO n m Q := rfl
section
variable {n m : Nat} {Q : List Pr}
theorem init_spec (hn : n ≤ 30) (hm : m ≤ 30) (nd : Q.Nodup) (hl : Q.length ≤ 1000) : ∃ M, g_Flow___init__ [.ptr 0, .dat (.int n), .dat (.int m), .dat (.list (Q.map kd))] [o0] = some (.ok (.dat .none), M) ∧ FlM M n m Q z0 (fun _ => m) (fun _ => n) := by
  have h1 := mul_list (x := .int m) (n := n) (by omega)
  have h2 := mul_list (x := .int n) (n := m) (by omega)
  rw [lI_rep] at h1 h2
  have e1 : (dBin oMul (dLst (dCons (dVar 2) dNil)) (dVar 1) true) [some (.ptr 0), some (.dat (.int n)), some (.dat (.int m)), some (.dat (.list (Q.map kd))), none] [o3 (.dat (.int n)) (.dat (.int m)) (.dat (.list (Q.map kd)))] = some (.ptr 1, [o3 (.dat (.int n)) (.dat (.int m)) (.dat (.list (Q.map kd))), .fl (.list (lI n fun _ => m))]) := by
    generalize lI n (fun _ => (m : Int)) = L at *
    generalize Q.map kd = KQ at *
    simp [lim_e, h1]
  have e2 : ∀ X, (dBin oMul (dLst (dCons (dVar 1) dNil)) (dVar 2) true) [some (.ptr 0), some (.dat (.int n)), some (.dat (.int m)), some (.dat (.list (Q.map kd))), none] [o4 (.dat (.int n)) (.dat (.int m)) (.dat (.list (Q.map kd))) (.ptr 1), X] = some (.ptr 2, [o4 (.dat (.int n)) (.dat (.int m)) (.dat (.list (Q.map kd))) (.ptr 1), X, .fl (.list (lI m fun _ => n))]) := fun X => by
    generalize lI m (fun _ => (n : Int)) = L at *
    generalize Q.map kd = KQ at *
    simp [lim_e, h2]
  refine ⟨[flO n m Q, .fl (.list (lI n fun _ => m)), .fl (.list (lI m fun _ => n)), .fl (tab (tb Q z0))], ?_, ⟨rfl, rfl, rfl, rfl⟩⟩
  unfold g_Flow___init__
  rw [dFun_e]
  show ((sSeq _ _) [some (SV.ptr 0), some (.dat (.int n)), some (.dat (.int m)), some (.dat (.list (Q.map kd))), none] [o0]).bind _ = _
  rw [seq_nx (sFldS_at rfl rfl rfl p1)]
  rw [seq_nx (sFldS_at rfl rfl rfl p2)]
  rw [seq_nx (sFldS_at rfl rfl rfl p3)]
  show ((sSeq _ _) [some (SV.ptr 0), some (.dat (.int n)), some (.dat (.int m)), some (.dat (.list (Q.map kd))), none] [o3 (.dat (.int n)) (.dat (.int m)) (.dat (.list (Q.map kd)))]).bind _ = _
  rw [seq_nx (sFldS_at e1 rfl rfl p4)]
  show ((sSeq _ _) [some (SV.ptr 0), some (.dat (.int n)), some (.dat (.int m)), some (.dat (.list (Q.map kd))), none] [o4 (.dat (.int n)) (.dat (.int m)) (.dat (.list (Q.map kd))) (.ptr 1), .fl (.list (lI n fun _ => m))]).bind _ = _
  rw [seq_nx (sFldS_at (e2 _) rfl rfl p5)]
  show ((sFldS _ _ _ _) [some (SV.ptr 0), some (.dat (.int n)), some (.dat (.int m)), some (.dat (.list (Q.map kd))), none] [o5 (.dat (.int n)) (.dat (.int m)) (.dat (.list (Q.map kd))) (.ptr 1) (.ptr 2), .fl (.list (lI n fun _ => m)), .fl (.list (lI m fun _ => n))]).bind _ = _
  rw [sFldS_at (tab_spec nd hl) rfl rfl p6]
  rfl
end
end K02
namespace K02
open PySem PySem.Spec PyProof.Rows L2 EL

abbrev twTest : DT := tVal (dBin oIsNot (dVar 4) (dC .none))
abbrev twWay : DS := sTup (dMethO "Flow" "way" g_Flow_way (dVar 3) dNil) (gTp [(gNm 4), (gNm 5)])
abbrev twSend : DS := sExpr (dMethO "Flow" "send" g_Flow_send (dVar 3) (dCons (dVar 4) dNil))
abbrev twTie : DE := dComp (iSeq (dFld "Flow" "pairs" (dVar 3))) (cStep (gNm 6) (tVal (dBin oGt (dIx (dFld "Flow" "table" (dVar 3)) (dVar 6)) (dC (.int 0)))) [6] (dBin oAdd (dVar 6) (dTup (dCons (dIx (dFld "Flow" "table" (dVar 3)) (dVar 6)) dNil))))
abbrev twMake : DE := dMake "Flow" g_Flow___init__ (dCons (dVar 0) (dCons (dVar 1) (dCons (dUn oSortSet (dVar 2)) dNil)))
theorem tw_eq : g_tie_within = dFun 7 (sSeq (sAsg 3 twMake) (sSeq twWay (sSeq (sWhile 40 twTest (sSeq twSend twWay)) (sSeq (sIf (tTru (dVar 5)) (sRet (dTup (dCons (dC (.str "bar")) (dCons (dCB bTuple (dCons (dVar 5) dNil)) dNil)))) sNil)
  (sRet (dTup (dCons (dC (.str "tie")) (dCons (dCB bTuple (dCons twTie dNil)) dNil)))))))) false false := rfl
section
variable {n m : Nat} {Q : List Pr} {t : Pr → Int} {lf rt : Int → Int} {M : Sto} {x0 x1 x2 x4 x5 x6 : Option SV}
theorem tw_way {M' : Sto} {a b : D} (f : FlM M n m Q t lf rt) (h : g_Flow_way [.ptr 0] M = some (.ok (.dat (.tuple [a, b])), M')) : twWay [x0, x1, x2, some (.ptr 0), x4, x5, x6] M = some (.nx, [x0, x1, x2, some (.ptr 0), some (.dat a), some (.dat b), x6], M') := by
  have f1 := f.o
  simp [f1, fm_way, h, okR]
theorem tw_send {M' : Sto} {a : D} (f : FlM M n m Q t lf rt) (h : g_Flow_send [.ptr 0, .dat a] M = some (.ok (.dat .none), M')) : twSend [x0, x1, x2, some (.ptr 0), some (.dat a), x5, x6] M = some (.nx, [x0, x1, x2, some (.ptr 0), some (.dat a), x5, x6], M') := by
  have f1 := f.o
  simp [f1, fm_send, h, okR]
theorem tw_t {L : List D} {x3 : Option SV} : twTest [x0, x1, x2, x3, some (.dat (.tuple L)), x5, x6] M = some (true, M) := by
  have : oIsNot (.tuple L) .none = some (.dat (.bool true)) := rfl
  simp [this]
theorem tw_f {x3 : Option SV} : twTest [x0, x1, x2, x3, some (.dat .none), x5, x6] M = some (false, M) := by
  have : oIsNot .none .none = some (.dat (.bool false)) := rfl
  simp [this]
/-- what way gives -/
def WayOut (n m : Nat) (Q : List Pr) (t : Pr → Int) (lf rt : Int → Int) (a b : D) : Prop :=
  (∃ ps k j, a = .tuple (flat (ps ++ [(k, j)])) ∧ GP n Q t lf ps k ∧ (k, j) ∈ Q ∧ 0 < rt j) ∨ ∃ S, a = .none ∧ b = .list (S.map .int) ∧ WayNo n m Q t lf rt S
theorem way_out (hn : n ≤ 30) (hQ : Q.length ≤ 1000) (F : Fl n m Q t lf rt) (f : FlM M n m Q t lf rt) :
    ∃ a b M', g_Flow_way [.ptr 0] M = some (.ok (.dat (.tuple [a, b])), M') ∧ FlM M' n m Q t lf rt ∧ WayOut n m Q t lf rt a b := by
  obtain ⟨d, M', e, f', h⟩ := way_spec hn hQ F f
  rcases h with ⟨ps, k, j, L, rfl, hg, hq, hj⟩ | ⟨S, rfl, hS⟩
  · exact ⟨_, _, M', e, f', .inl ⟨ps, k, j, rfl, hg, hq, hj⟩⟩
  · exact ⟨_, _, M', e, f', .inr ⟨S, rfl, rfl, hS⟩⟩
theorem tw_while (hn : n ≤ 30) (hQ : Q.length ≤ 1000) : ∀ (N : Nat) {t : Pr → Int} {lf rt : Int → Int} {M : Sto} {a b : D}, FlM M n m Q t lf rt → Fl n m Q t lf rt → WayOut n m Q t lf rt a b → tot n lf < N →
    ∃ t' lf' rt' S M', whileL twTest (sSeq twSend twWay) N [x0, x1, x2, some (.ptr 0), some (.dat a), some (.dat b), x6] M = some (.nx, [x0, x1, x2, some (.ptr 0), some (.dat .none), some (.dat (.list (S.map .int))), x6], M') ∧ FlM M' n m Q t' lf' rt' ∧ Fl n m Q t' lf' rt' ∧ WayNo n m Q t' lf' rt' S
  | 0, t, lf, rt, M, a, b, f, F, h, hN => by
    have := tot_nn F.le0
    omega
  | N + 1, t, lf, rt, M, a, b, f, F, h, hN => by
    rcases h with ⟨ps, k, j, rfl, hg, hq, hj⟩ | ⟨S, rfl, rfl, hS⟩
    · obtain ⟨F', hr, h0⟩ := send_ok F hg hq hj
      have hlen := gp_len hg
      obtain ⟨M1, e1, f1⟩ := send_spec f F hg hq hQ (by omega)
      obtain ⟨a, b, M2, e2, f2, h2⟩ := way_out hn hQ F' f1
      obtain ⟨t', lf', rt', S, M', e3, f3, F3, hS⟩ := tw_while hn hQ N f2 F' h2 (by
        rw [tot_upd, if_pos hr]
        omega)
      exact ⟨t', lf', rt', S, M', (whileL_t tw_t ((seq_nx (tw_send f e1)).trans (tw_way f1 e2))).trans e3, f3, F3, hS⟩
    · exact ⟨t, lf, rt, S, M, whileL_f tw_f, f, F, hS⟩
/-- the rows of a flow -/
def rowsT (Q : List Pr) (t : Pr → Int) : List EL.Row := (Q.filter fun p => decide (0 < t p)).map fun p => (p.1, p.2, t p)
theorem tie_e (f : FlM M n m Q t lf rt) (hQ : Q.length ≤ 1000) : twTie [x0, x1, x2, some (.ptr 0), x4, x5, x6] M = some (.dat (.list ((rowsT Q t).map rowD)), M) := by
  have e := dComp_map (m := false) (fi := iSeq (dFld "Flow" "pairs" (dVar 3))) (ds := Q.map kd) (tg := gNm 6) (own := [6]) (tt := tVal (dBin oGt (dIx (dFld "Flow" "table" (dVar 3)) (dVar 6)) (dC (.int 0)))) (te := dBin oAdd (dVar 6) (dTup (dCons (dIx (dFld "Flow" "table" (dVar 3)) (dVar 6)) dNil))) (Γ := [x0, x1, x2, some (.ptr 0), x4, x5, x6]) (M0 := M) (M := M)
    (fun d => decide (0 < t (unkd d))) (fun d => rowD ((unkd d).1, (unkd d).2, t (unkd d))) (by
      have h := f.o
      generalize hk : List.map kd Q = KQ at *
      simp [h, fl_pairs, hk]) (by rw [List.length_map, lim_e]; omega) fun d hd => by
      obtain ⟨p, hp, rfl⟩ := List.mem_map.mp hd
      have h1 := f.o
      have h2 := f.tt
      have h3 := ix_tab (t := t) hp
      have h4 : unkd (kd p) = p := rfl
      refine ⟨[x0, x1, x2, some (.ptr 0), x4, x5, some (.dat (kd p))], rfl, ?_, fun _ => ?_⟩
      · generalize tab (tb Q t) = T at *
        generalize hkp : kd p = KP at *
        simp [h1, fl_table, h2, h3, h4]
      · have h5 : oAdd (kd p) (.tuple [.int (t p)]) = some (.dat (rowD (p.1, p.2, t p))) := oAdd_tup (by simp [lim_e])
        generalize tab (tb Q t) = T at *
        generalize hkp : kd p = KP at *
        simp [h1, fl_table, h2, h3, h4, h5, lim_e]
  refine e.trans ?_
  rw [finD_f]
  unfold rowsT
  rw [List.filter_map, List.map_map, List.map_map]; rfl
theorem make_spec {P : List Pr} (hn : n ≤ 30) (hm : m ≤ 30) (hl : P.length < 64) (hP : ∀ p ∈ P, SmallP p) : ∃ M, twMake [some (.dat (.int n)), some (.dat (.int m)), some (.dat (psD P)), x0, x1, x2, x4] [] = some (.ptr 0, M) ∧ FlM M n m (canon P) z0 (fun _ => m) (fun _ => n) := by
  have hc : (canon P).length ≤ 64 := by
    unfold canon
    refine Nat.le_trans (List.length_filter_le _ _) ?_
    decide +kernel
  obtain ⟨M, e, f⟩ := init_spec (n := n) (m := m) (Q := canon P) hn hm (canon_nd P) (by omega)
  refine ⟨M, ?_, f⟩
  have h1 : oSortSet (psD P) = some (.new (.list ((canon P).map kd))) := by
    show (prsD (P.map prI)).bind _ = _
    rw [prsD_map, Option.bind_some, if_pos ⟨hl, hP⟩]; rfl
  have e' : g_Flow___init__ [.ptr 0, .dat (.int n), .dat (.int m), .dat (.list ((canon P).map kd))] [.ob "Flow" []] = some (.ok (.dat .none), M) := e
  generalize (canon P).map kd = KQ at *
  generalize psD P = PD at *
  simp [h1, e']
theorem ws_zero {A : Pr → Bool} {Q : List Pr} : ws A Q z0 = 0 := by
  induction Q with
  | nil => rfl
  | cons p r ih =>
    rw [ws_cons, ih]
    split <;> rfl
theorem fl_start {P : List Pr} (hP : ∀ p ∈ P, SmallP p) (hr : ∀ p ∈ P, (0 ≤ p.1 ∧ p.1 < n) ∧ 0 ≤ p.2 ∧ p.2 < m) : Fl n m (canon P) z0 (fun _ => m) (fun _ => n) :=
  ⟨canon_nd P, fun p hp => hr p ((canon_mem hP).mp hp), fun _ => Int.le_refl _, fun p h => absurd rfl h, fun i _ _ => by unfold rowS; rw [ws_zero]; omega, fun i _ _ => by unfold colS; rw [ws_zero]; omega, fun _ _ _ => by omega, fun _ _ _ => by omega⟩
theorem canon_le {P : List Pr} : (canon P).length ≤ 64 := by
  unfold canon
  refine Nat.le_trans (List.length_filter_le _ _) ?_
  decide +kernel
theorem tot_const {c : Nat} : ∀ {n : Nat}, tot n (fun _ => (c : Int)) = ((n * c : Nat) : Int)
  | 0 => by simp [tot]
  | n + 1 => by
    have ih := tot_const (c := c) (n := n)
    unfold tot at ih ⊢
    rw [List.range_succ, List.map_append, List.sum_append, ih]
    show _ + ((c : Int) + 0) = _
    rw [Nat.succ_mul]
    push_cast
    omega
/-- what tie_within gives -/
def TwOut (n m : Nat) (P : List Pr) (d : D) : Prop :=
  (∃ t lf rt S, Fl n m (canon P) t lf rt ∧ WayNo n m (canon P) t lf rt S ∧ S ≠ [] ∧ d = .tuple [.str "bar", .tuple (S.map .int)]) ∨ ∃ t lf rt, Fl n m (canon P) t lf rt ∧ (∀ i : Int, 0 ≤ i → i < n → lf i ≤ 0) ∧ d = .tuple [.str "tie", .tuple ((rowsT (canon P) t).map rowD)]
theorem end_bar {L : List D} {x3 : Option SV} (h : L ≠ []) : (sSeq (sIf (tTru (dVar 5)) (sRet (dTup (dCons (dC (.str "bar")) (dCons (dCB bTuple (dCons (dVar 5) dNil)) dNil)))) sNil) (sRet (dTup (dCons (dC (.str "tie")) (dCons (dCB bTuple (dCons twTie dNil)) dNil))))) [x0, x1, x2, x3, x4, some (.dat (.list L)), x6] M = some (.rt (.dat (.tuple [.str "bar", .tuple L])), [x0, x1, x2, x3, x4, some (.dat (.list L)), x6], M) := by
  cases L with
  | nil => exact absurd rfl h
  | cons d r =>
    generalize hs : PyData.str "bar" = z
    simp [lim_e]
theorem end_tie {L : List D} {x3 : Option SV} (h : twTie [x0, x1, x2, x3, x4, some (.dat (.list [])), x6] M = some (.dat (.list L), M)) : (sSeq (sIf (tTru (dVar 5)) (sRet (dTup (dCons (dC (.str "bar")) (dCons (dCB bTuple (dCons (dVar 5) dNil)) dNil)))) sNil) (sRet (dTup (dCons (dC (.str "tie")) (dCons (dCB bTuple (dCons twTie dNil)) dNil))))) [x0, x1, x2, x3, x4, some (.dat (.list [])), x6] M = some (.rt (.dat (.tuple [.str "tie", .tuple L])), [x0, x1, x2, x3, x4, some (.dat (.list [])), x6], M) := by
  generalize hs : PyData.str "tie" = z
  rw [seq_nx (Γ1 := [x0, x1, x2, x3, x4, some (.dat (.list [])), x6]) (M1 := M) (by simp)]
  have hT : (dCB bTuple (dCons twTie dNil)) [x0, x1, x2, x3, x4, some (.dat (.list [])), x6] M = some (.dat (.tuple L), M) := by
    rw [dCB_e, dCons_e, h]
    simp
  generalize dCB bTuple (dCons twTie dNil) = fe at *
  simp [hT, lim_e]
theorem tie_within_spec {P : List Pr} (hn : n ≤ 6) (hm : m ≤ 6) (hl : P.length < 64) (hr : ∀ p ∈ P, (0 ≤ p.1 ∧ p.1 < n) ∧ 0 ≤ p.2 ∧ p.2 < m) :
    ∃ d, g_tie_within [.dat (.int n), .dat (.int m), .dat (psD P)] [] = some (.ok (.dat d), []) ∧ TwOut n m P d := by
  have hP : ∀ p ∈ P, SmallP p := fun p hp => by
    have := hr p hp
    unfold SmallP
    omega
  have hc : (canon P).length ≤ 1000 := Nat.le_trans canon_le (by omega)
  obtain ⟨M1, e1, f1⟩ := make_spec (n := n) (m := m) (x0 := none) (x1 := none) (x2 := none) (x4 := none) (by omega) (by omega) hl hP
  have F1 := fl_start hP hr
  obtain ⟨a, b, M2, e2, f2, h2⟩ := way_out (by omega) hc F1 f1
  have hnm : n * m ≤ 6 * 6 := Nat.mul_le_mul hn hm
  obtain ⟨t, lf, rt, S, M3, e3, f3, F3, hS⟩ := tw_while (x0 := some (.dat (.int n))) (x1 := some (.dat (.int m))) (x2 := some (.dat (psD P))) (x6 := none) (by omega) hc 40 f2 F1 h2 (by
    rw [tot_const]
    omega)
  have e1' : sAsg 3 twMake [some (.dat (.int n)), some (.dat (.int m)), some (.dat (psD P)), none, none, none, none] [] = some (.nx, [some (.dat (.int n)), some (.dat (.int m)), some (.dat (psD P)), some (.ptr 0), none, none, none], M1) := by
    rw [sAsg_e, e1]; rfl
  rw [tw_eq]
  by_cases hS0 : S = []
  · subst hS0
    refine ⟨_, fun_rt (Γ1 := [some (.dat (.int n)), some (.dat (.int m)), some (.dat (psD P)), some (.ptr 0), some (.dat .none), some (.dat (.list [])), none]) (M := M3) (d := .tuple [.str "tie", .tuple ((rowsT (canon P) t).map rowD)]) ?_, .inr ⟨t, lf, rt, F3, fun i h1 h2 => ?_, rfl⟩⟩
    · show (sSeq _ _) [some (SV.dat (.int n)), some (.dat (.int m)), some (.dat (psD P)), none, none, none, none] [] = _
      rw [seq_nx e1', seq_nx (tw_way f1 e2), seq_nx (by rw [sWhile_e]; exact e3)]
      exact end_tie (tie_e f3 hc)
    · have := hS.2.2.2.2.1 i h1 h2
      refine Int.not_lt.mp fun z => ?_
      cases this z
  · refine ⟨_, fun_rt (Γ1 := [some (.dat (.int n)), some (.dat (.int m)), some (.dat (psD P)), some (.ptr 0), some (.dat .none), some (.dat (.list (S.map .int))), none]) (M := M3) (d := .tuple [.str "bar", .tuple (S.map .int)]) ?_, .inl ⟨t, lf, rt, S, F3, hS, hS0, rfl⟩⟩
    show (sSeq _ _) [some (SV.dat (.int n)), some (.dat (.int m)), some (.dat (psD P)), none, none, none, none] [] = _
    rw [seq_nx e1', seq_nx (tw_way f1 e2), seq_nx (by rw [sWhile_e]; exact e3)]
    exact end_bar (by simpa using hS0)
end
end K02
namespace K02
open PySem PySem.Spec PyProof.Rows L2 EL

abbrev shB : DS := sExpr (dMethW "list" cInsert (dVar 2) (dCons (dCall g__law_draw (dCons (dVar 0) (dCons (dBin oAdd (dLen (dVar 2)) (dC (.int 1))) dNil))) (dCons (dVar 3) dNil)))
theorem sh_step {d d2 z : D} {R : Sto} {ys : List D} {s : SV} {v : Int} (hv : g__law_draw [.ptr 0, .dat (.int ((ys.length : Int) + 1))] [.fl d] = some (.ok (.dat (.int v)), [.fl d2])) (h0 : 0 ≤ v) (h1 : v ≤ ys.length) (hl : ys.length < 20000) :
    shB [some (.ptr 0), some s, some (.ptr (R.length + 1)), some (.dat z)] (.fl d :: (R ++ [.fl (.list ys)])) = some (.nx, [some (.ptr 0), some s, some (.ptr (R.length + 1)), some (.dat z)], .fl d2 :: (R ++ [.fl (.list (ys.take v.toNat ++ [z] ++ ys.drop v.toNat))])) := by
  have g1 : (Cell.fl d :: (R ++ [.fl (.list ys)]))[R.length + 1]? = some (.fl (.list ys)) := by simp
  have g2 : (Cell.fl d2 :: (R ++ [.fl (.list ys)]))[R.length + 1]? = some (.fl (.list ys)) := by simp
  have g3 : (Cell.fl d2 :: (R ++ [.fl (.list ys)])).set (R.length + 1) (.fl (.list (ys.take v.toNat ++ [z] ++ ys.drop v.toNat))) = .fl d2 :: (R ++ [.fl (.list (ys.take v.toNat ++ [z] ++ ys.drop v.toNat))]) := by
    rw [List.set_cons_succ, List.set_append_right _ _ (Nat.le_refl _), Nat.sub_self]; rfl
  have g0 : (Cell.fl d :: (R ++ [.fl (.list ys)]))[0]? = some (.fl d) := rfl
  have gs : (Cell.fl d :: (R ++ [.fl (.list ys)])).set 0 (.fl d2) = .fl d2 :: (R ++ [.fl (.list ys)]) := rfl
  have hin : cInsert (.fl (.list ys)) [.dat (.int v), .dat z] = some (.fl (.list (ys.take v.toNat ++ [z] ++ ys.drop v.toNat)), .dat .none) := cInsert_e (by rw [lim_e]; omega) h0 (by omega)
  generalize ys.take v.toNat ++ [z] ++ ys.drop v.toNat = Z at *
  generalize hM : (Cell.fl d :: (R ++ [.fl (.list ys)])) = MM at *
  generalize hM2 : (Cell.fl d2 :: (R ++ [.fl (.list ys)])) = MM2 at *
  simp [g1, g0, hv, gs, g2, hin, g3]
theorem shuffled_spec {d : D} {R : Sto} {xs : List D} {s : SV} (hs : IsSt d) (hl : xs.length ≤ 10000) (hx : s = .dat (.list xs) ∨ ∃ j, s = .ptr (j + 1) ∧ R[j]? = some (.fl (.list xs))) :
    ∃ ys d', g__law_shuffled [.ptr 0, s] (.fl d :: R) = some (.ok (.ptr (R.length + 1)), .fl d' :: (R ++ [.fl (.list ys)])) ∧ ys.Perm xs ∧ IsSt d' := by
  have hfor : ∃ Γ' M', sFor (iSeq (dVar 1)) (gNm 3) shB [some (.ptr 0), some s, some (.ptr (R.length + 1)), none] (.fl d :: (R ++ [.fl (.list [])])) = some (.nx, Γ', M') ∧
      (∃ x, Γ' = [some (.ptr 0), some s, some (.ptr (R.length + 1)), x]) ∧ ∃ ys d', M' = .fl d' :: (R ++ [.fl (.list ys)]) ∧ ys.Perm (xs.take xs.length) ∧ IsSt d' := by
    have step : ∀ i z Γ M, xs[i]? = some z → ((∃ x, Γ = [some (.ptr 0), some s, some (.ptr (R.length + 1)), x]) ∧ ∃ ys d', M = .fl d' :: (R ++ [.fl (.list ys)]) ∧ ys.Perm (xs.take i) ∧ IsSt d') →
        ∃ Γ1 r, gNm 3 (.dat z) M Γ = some Γ1 ∧ shB Γ1 M = some r ∧ Turned (fun i Γ M => (∃ x, Γ = [some (.ptr 0), some s, some (.ptr (R.length + 1)), x]) ∧ ∃ ys d', M = .fl d' :: (R ++ [.fl (.list ys)]) ∧ ys.Perm (xs.take i) ∧ IsSt d') (fun _ => False) i r := by
      rintro i z Γ M hd ⟨⟨x, hΓ⟩, ys, d', hM, hp, hs'⟩
      subst hΓ hM
      have hi := (List.getElem?_eq_some_iff.mp hd).1
      have hyl : ys.length = i := by rw [hp.length_eq, List.length_take]; omega
      obtain ⟨v, d2, e, h0, hv, hs2⟩ := k_draw (m := (ys.length : Int) + 1) hs' (by omega) (by omega)
      refine ⟨_, _, rfl, sh_step e h0 (by omega) (by omega), ⟨_, rfl⟩, ys.take v.toNat ++ [z] ++ ys.drop v.toNat, d2, rfl, ?_, hs2⟩
      have h1 : xs.take (i + 1) = xs.take i ++ [z] := by rw [List.take_add_one, hd]; rfl
      rw [h1, List.append_assoc]
      refine (List.perm_middle (a := z) (l₁ := ys.take v.toNat) (l₂ := ys.drop v.toNat)).trans ?_
      rw [List.take_append_drop]
      exact (List.Perm.cons z hp).trans (List.perm_append_singleton z (xs.take i)).symm
    rcases hx with rfl | ⟨j, rfl, hj⟩
    · obtain ⟨r, e, h | ⟨Γ', M', rfl, h⟩⟩ := sFor_ind (fi := iSeq (dVar 1)) (tg := gNm 3) (body := shB) (Γ := [some (.ptr 0), some (.dat (.list xs)), some (.ptr (R.length + 1)), none]) (M := .fl d :: (R ++ [.fl (.list [])])) (M1 := .fl d :: (R ++ [.fl (.list [])])) (ds := xs) rfl _ (fun _ => False) ⟨⟨none, rfl⟩, [], d, rfl, by simp, hs⟩ step
      · exact h.elim
      · exact ⟨Γ', M', e, h⟩
    · have hjl := (List.getElem?_eq_some_iff.mp hj).1
      have hat : ∀ (d' : D) ys, (Cell.fl d' :: (R ++ [.fl (.list ys)]))[j + 1]? = some (.fl (.list xs)) := fun d' ys => by
        rw [List.getElem?_cons_succ, List.getElem?_append_left hjl]; exact hj
      obtain ⟨r, e, h | ⟨Γ', M', rfl, h⟩⟩ := sFor_indP (fi := iSeq (dVar 1)) (it := itP (j + 1)) (tg := gNm 3) (body := shB) (Γ := [some (.ptr 0), some (.ptr (j + 1)), some (.ptr (R.length + 1)), none]) (M := .fl d :: (R ++ [.fl (.list [])])) (M1 := .fl d :: (R ++ [.fl (.list [])])) (ds := xs) (by
        rw [iSeq_e]
        show sqw (.ptr (j + 1), _) = _
        exact sqw_ptr (hat _ _)) (fun i Γ M => (∃ x, Γ = [some (.ptr 0), some (.ptr (j + 1)), some (.ptr (R.length + 1)), x]) ∧ ∃ ys d', M = .fl d' :: (R ++ [.fl (.list ys)]) ∧ ys.Perm (xs.take i) ∧ IsSt d') (fun _ => False) (fun i Γ M ⟨_, ys, d', hM, _, _⟩ => by
          subst hM
          exact itP_at (hat _ _)) ⟨⟨none, rfl⟩, [], d, rfl, by simp, hs⟩ step
      · exact h.elim
      · exact ⟨Γ', M', e, h⟩
  obtain ⟨Γ', M', e, ⟨x, rfl⟩, ys, d', rfl, hp, hs'⟩ := hfor
  refine ⟨ys, d', ?_, by rw [List.take_length] at hp; exact hp, hs'⟩
  unfold g__law_shuffled
  rw [dFun_e]
  show ((sSeq _ _) [some (SV.ptr 0), some s, none, none] (.fl d :: R)).bind _ = _
  rw [seq_nx (Γ1 := [some (SV.ptr 0), some s, some (.ptr (R.length + 1)), none]) (M1 := .fl d :: (R ++ [.fl (.list [])])) (by simp [lim_e])]
  rw [seq_nx e]
  rfl
/-- all ascending rows of places below n -/
def subs : Nat → List (List Int)
  | 0 => [[]]
  | n + 1 => subs n ++ (subs n).map (· ++ [(n : Int)])
theorem subs_len : ∀ n, (subs n).length = 2 ^ n
  | 0 => rfl
  | n + 1 => by
    show (subs n ++ (subs n).map _).length = _
    rw [List.length_append, List.length_map, subs_len n, Nat.pow_succ]
    omega
theorem subs_rng : ∀ {n : Nat} {S : List Int}, S ∈ subs n → (∀ i ∈ S, 0 ≤ i ∧ i < n) ∧ S.Pairwise fun a b => a < b
  | 0, S, h => by
    rw [List.mem_singleton.mp h]
    exact ⟨(fun _ h => nomatch h), List.Pairwise.nil⟩
  | n + 1, S, h => by
    rcases List.mem_append.mp h with h | h
    · have ih := subs_rng h
      exact ⟨fun i hi => by have := ih.1 i hi; omega, ih.2⟩
    · obtain ⟨T, hT, rfl⟩ := List.mem_map.mp h
      have ih := subs_rng hT
      refine ⟨fun i hi => ?_, ?_⟩
      · rcases List.mem_append.mp hi with hi | hi
        · have := ih.1 i hi
          omega
        · rw [List.mem_singleton.mp hi]; omega
      · rw [List.pairwise_append]
        refine ⟨ih.2, List.pairwise_singleton _ _, fun a ha b hb => ?_⟩
        rw [List.mem_singleton.mp hb]
        exact (ih.1 a ha).2
theorem subs_all : ∀ {n : Nat} {S : List Int}, (∀ i ∈ S, 0 ≤ i ∧ i < n) → (S.Pairwise fun a b => a < b) → S ∈ subs n
  | 0, S, h, _ => by
    cases S with
    | nil => exact List.mem_singleton.mpr rfl
    | cons x r =>
      have := h x List.mem_cons_self
      omega
  | n + 1, S, h, hp => by
    show S ∈ subs n ++ (subs n).map _
    rw [List.mem_append]
    rcases List.eq_nil_or_concat S with rfl | ⟨T, x, rfl⟩
    · exact .inl (subs_all (S := []) (fun _ h => nomatch h) List.Pairwise.nil)
    · rw [List.concat_eq_append] at *
      rw [List.pairwise_append] at hp
      have hx := h x (by simp)
      have hT : ∀ i ∈ T, 0 ≤ i ∧ i < x := fun i hi => ⟨(h i (by simp [hi])).1, hp.2.2 i hi x (by simp)⟩
      by_cases hxn : x = n
      · subst hxn
        exact .inr (List.mem_map.mpr ⟨T, subs_all hT hp.1, rfl⟩)
      · refine .inl (subs_all (fun i hi => ?_) (List.pairwise_append.mpr hp))
        have hi' := h i hi
        rcases List.mem_append.mp hi with hi | hi
        · have := hT i hi
          omega
        · rw [List.mem_singleton.mp hi] at hi' ⊢
          omega
abbrev tS (S : List Int) : D := .tuple (S.map .int)
theorem subs_step {L : List (List Int)} {k : Nat} {x y : Option SV} {M : Sto} (hl : L.length ≤ 1000) (hL : ∀ S ∈ L, S.length ≤ 100) :
    (sAsg 1 (dBin oAdd (dVar 1) (dComp (iSeq (dVar 1)) (cStep (gNm 3) tYes_ [3] (dBin oAdd (dVar 3) (dTup (dCons (dVar 2) dNil))))))) [x, some (.dat (.list (L.map tS))), some (.dat (.int (k : Nat))), y] M = some (.nx, [x, some (.dat (.list ((L ++ L.map (· ++ [(k : Int)])).map tS))), some (.dat (.int (k : Nat))), y], M) := by
  have e := dComp_xs (m := false) (tg := gNm 3) (own := [3]) (te := dBin oAdd (dVar 3) (dTup (dCons (dVar 2) dNil))) (fi := iSeq (dVar 1)) (Γ := [x, some (.dat (.list (L.map tS))), some (.dat (.int (k : Nat))), y]) (M0 := M) (M := M) L tS (fun S => tS (S ++ [(k : Int)])) rfl (by rw [lim_e]; omega) fun S hS => ⟨[x, some (.dat (.list (L.map tS))), some (.dat (.int (k : Nat))), some (.dat (tS S))], rfl, by
    have ha : oAdd (tS S) (.tuple [.int (k : Nat)]) = some (.dat (tS (S ++ [(k : Int)]))) := by
      have := hL S hS
      show oAdd (.tuple (S.map .int)) _ = some (.dat (.tuple ((S ++ [(k : Int)]).map .int)))
      rw [oAdd_tup (by simp [lim_e]; omega), List.map_append]; rfl
    generalize tS S = A at *
    generalize tS (S ++ [(k : Int)]) = B at *
    simp [ha, lim_e]⟩
  rw [finD_f] at e
  have ha : oAdd (.list (L.map tS)) (.list (L.map fun S => tS (S ++ [(k : Int)]))) = some (.new (.list ((L ++ L.map (· ++ [(k : Int)])).map tS))) := by
    rw [oAdd_lst (by simp [lim_e]; omega), List.map_append, List.map_map]; rfl
  generalize L.map tS = A at *
  generalize (L.map fun S => tS (S ++ [(k : Int)])) = B at *
  generalize ((L ++ L.map (· ++ [(k : Int)])).map tS) = C at *
  simp [e, ha]
theorem subsets_spec {n : Nat} (hn : n ≤ 6) : g__law_subsets_of [.dat (.int n)] [] = some (.ok (.dat (.list ((subs n).map tS))), []) := by
  obtain ⟨Γ', M', e, ⟨x, y, hΓ⟩, hM⟩ := sFor_all (fi := iRng (dCons (dVar 0) dNil)) (tg := gNm 2) (body := sAsg 1 (dBin oAdd (dVar 1) (dComp (iSeq (dVar 1)) (cStep (gNm 3) tYes_ [3] (dBin oAdd (dVar 3) (dTup (dCons (dVar 2) dNil))))))) (Γ := [some (.dat (.int n)), some (.dat (.list ((subs 0).map tS))), none, none]) (M := []) (M1 := []) (ds := rngD 0 n) (by
      simp
      rw [rgw_1 (by omega) (by omega), Int.toNat_natCast, rngD_length])
    (fun i Γ M => (∃ x y, Γ = [some (.dat (.int n)), some (.dat (.list ((subs i).map tS))), x, y]) ∧ M = []) ⟨⟨none, none, rfl⟩, rfl⟩ fun i d Γ M hd ⟨⟨x, y, hΓ⟩, hM⟩ => by
      subst hΓ hM
      have hi : i < n := by
        have := (List.getElem?_eq_some_iff.mp hd).1
        rwa [rngD_length] at this
      rw [rngD_get hi, Int.zero_add] at hd
      cases hd
      have hp : 2 ^ i ≤ 2 ^ 6 := Nat.pow_le_pow_right (by decide) (by omega)
      refine ⟨_, _, _, rfl, subs_step (k := i) (by rw [subs_len]; omega) fun S hS => ?_, ⟨_, _, rfl⟩, rfl⟩
      have h1 := subs_rng hS
      have h2 := nodup_le (h1.2.imp fun h => by omega) h1.1
      omega
  rw [rngD_length] at hΓ
  subst hΓ hM
  refine fun_rt (Γ1 := [some (.dat (.int n)), some (.dat (.list ((subs n).map tS))), x, y]) (M := []) ?_
  show (sSeq _ _) [some (SV.dat (.int n)), none, none, none] [] = _
  rw [seq_nx (Γ1 := [some (SV.dat (.int n)), some (.dat (.list ((subs 0).map tS))), none, none]) (M1 := []) (by simp [lim_e, subs]), seq_nx e]
  rfl
end K02
namespace K02
open PySem PySem.Spec PyProof.Rows L2 EL

def InP (n m : Nat) (q : Pr) : Prop := (0 ≤ q.1 ∧ q.1 < n) ∧ 0 ≤ q.2 ∧ q.2 < m
theorem nodupP_le {n m : Nat} (hn : n ≤ 5) (hm : m ≤ 5) {L : List Pr} (nd : L.Nodup) (h : ∀ p ∈ L, InP n m p) : L.length ≤ 25 := by
  have h1 : (L.map fun p => p.1 * 5 + p.2).Nodup := by
    refine List.pairwise_map.mpr (List.Pairwise.imp_of_mem (fun {p q} hp hq hne e => hne ?_) nd)
    obtain ⟨⟨a1, a2⟩, a3, a4⟩ := h p hp
    obtain ⟨⟨b1, b2⟩, b3, b4⟩ := h q hq
    have e1 : p.1 = q.1 := by omega
    have e2 : p.2 = q.2 := by omega
    exact Prod.ext e1 e2
  have := nodup_le (n := 25) h1 fun i hi => by
    obtain ⟨p, hp, rfl⟩ := List.mem_map.mp hi
    obtain ⟨⟨a1, a2⟩, a3, a4⟩ := h p hp
    omega
  rwa [List.length_map] at this
theorem put_ex {cs : Cs} {q : Pr} {v : Int} (nd : (cs.map (·.1)).Nodup) : ∃ cs' : Cs, dPut (cs.map ent) (kd q) (.int v) = cs'.map ent ∧ (cs'.map (·.1)).Nodup ∧ ∀ e ∈ cs', e.1 = q ∨ e.1 ∈ cs.map (·.1) := by
  unfold dPut
  rw [dHas_ent]
  by_cases h : q ∈ cs.map (·.1)
  · rw [decide_eq_true h, if_pos rfl]
    refine ⟨cs.map fun e => if e.1 = q then (e.1, v) else e, ?_, ?_, fun e he => ?_⟩
    · rw [List.map_map, List.map_map]
      refine List.map_congr_left fun e _ => ?_
      show (if nk (kd e.1) = nk (kd q) then (kd e.1, PyData.int v) else ent e) = ent (if e.1 = q then (e.1, v) else e)
      by_cases hq : e.1 = q
      · rw [if_pos ((nk_kd _ _).mpr hq), if_pos hq]; rfl
      · rw [if_neg fun z => hq ((nk_kd _ _).mp z), if_neg hq]
    · rw [List.map_map]
      have : (cs.map ((fun e : Pr × Int => e.1) ∘ fun e => if e.1 = q then (e.1, v) else e)) = cs.map (·.1) := List.map_congr_left fun e _ => by
        show (if e.1 = q then (e.1, v) else e).1 = e.1
        split <;> rfl
      rw [this]; exact nd
    · obtain ⟨x, hx, rfl⟩ := List.mem_map.mp he
      refine .inr ?_
      split
      · exact List.mem_map.mpr ⟨x, hx, rfl⟩
      · exact List.mem_map.mpr ⟨x, hx, rfl⟩
  · rw [decide_eq_false h, if_neg Bool.false_ne_true]
    refine ⟨cs ++ [(q, v)], by rw [List.map_append]; rfl, ?_, fun e he => ?_⟩
    · rw [List.map_append, List.nodup_append]
      refine ⟨nd, by simp, fun a ha b hb e => ?_⟩
      have hb : b = q := by simpa using hb
      rw [e, hb] at ha
      exact h ha
    · rcases List.mem_append.mp he with he | he
      · exact .inr (List.mem_map.mpr ⟨e, he, rfl⟩)
      · rw [List.mem_singleton.mp he]
        exact .inl rfl
structure Gd (n m : Nat) (cs : Cs) : Prop where
  nd : (cs.map (·.1)).Nodup
  mem : ∀ q ∈ cs.map (·.1), InP n m q
theorem Gd.len {n m : Nat} {cs : Cs} (g : Gd n m cs) (hn : n ≤ 5) (hm : m ≤ 5) : cs.length ≤ 25 := by
  have := nodupP_le hn hm g.nd g.mem
  rwa [List.length_map] at this
abbrev stB : DS := sSub (dBin oAdd (dGet (dVar 3) (dCons (dTup (dCons (dIx (dVar 5) (dVar 7)) (dCons (dIx (dVar 6) (dVar 7)) dNil))) (dCons (dC (.int 0)) dNil))) (dC (.int 1))) (dVar 3) (dTup (dCons (dIx (dVar 5) (dVar 7)) (dCons (dIx (dVar 6) (dVar 7)) dNil)))
section
variable {n m k : Nat} {st A B : D} {R : Sto} {x y : Option SV} {cs : Cs} {ls rs : List Int}
theorem st_step {a b : Int} {i : Nat} (g : Gd n m cs) (hn : n ≤ 5) (hm : m ≤ 5) (hR : R[k]? = some (.fl (.list (ls.map .int)))) (h1 : ls[i]? = some a) (h2 : rs[i]? = some b) (hp : InP n m (a, b)) :
    ∃ cs', stB [some (.ptr 0), some (.dat A), some (.dat B), some (.ptr 1), x, some (.ptr (k + 2)), some (.dat (.list (rs.map .int))), some (.dat (.int (i : Nat))), y] (.fl st :: .fl (tab cs) :: R) =
      some (.nx, [some (.ptr 0), some (.dat A), some (.dat B), some (.ptr 1), x, some (.ptr (k + 2)), some (.dat (.list (rs.map .int))), some (.dat (.int (i : Nat))), y], .fl st :: .fl (tab cs') :: R) ∧ Gd n m cs' := by
  have q1 : atI (ls.map PyData.int) ((i : Nat) : Int) = some (.int a) := EL.atI_nat (by rw [List.getElem?_map, h1]; rfl)
  have q2 : atI (rs.map PyData.int) ((i : Nat) : Int) = some (.int b) := EL.atI_nat (by rw [List.getElem?_map, h2]; rfl)
  obtain ⟨cs', e, nd', hm'⟩ := put_ex (q := (a, b)) (v := (look cs (a, b)).getD 0 + 1) g.nd
  have hl := g.len hn hm
  have hg : mGet (tab cs) [.tuple [.int a, .int b], .int 0] = some (.dat (.int ((look cs (a, b)).getD 0))) := by
    have hk : kd (a, b) = .tuple [.int a, .int b] := rfl
    rw [← hk]
    unfold tab mGet
    dsimp only
    rw [if_pos dk_tab]
    show some (OR.dat ((dLook (cs.map ent) (kd (a, b))).getD (.int 0))) = _
    rw [dLook_ent]
    cases look cs (a, b) <;> rfl
  have hs : oSet (.fl (tab cs)) (.tuple [.int a, .int b]) (.dat (.int ((look cs (a, b)).getD 0 + 1))) = some (.fl (tab cs')) := by
    have h3 : keyOk (kd (a, b)) = true ∧ (cs.map ent).length < LIM := ⟨keyOk_kd _, by rw [List.length_map, lim_e]; omega⟩
    show (if keyOk (kd (a, b)) = true ∧ (cs.map ent).length < LIM then some (Cell.fl (.dict ((.none, .none) :: dPut (cs.map ent) (kd (a, b)) _))) else none) = _
    rw [if_pos h3, e]; rfl
  have ht : tyD "dict" (tab cs) = true := rfl
  refine ⟨cs', ?_, nd', fun q hq => ?_⟩
  · generalize tab cs = T at *
    generalize tab cs' = T' at *
    simp [q1, q2, hg, hs, ht, hR, lim_e, -atI_nn]
  · obtain ⟨z, hz, rfl⟩ := List.mem_map.mp hq
    rcases hm' z hz with h | h
    · rw [h]; exact hp
    · exact g.mem _ h
abbrev stI : DS := sFor (iRng (dCons (dLen (dVar 5)) dNil)) (gNm 7) stB
theorem st_inner (g : Gd n m cs) (hn : n ≤ 5) (hm : m ≤ 5) (hR : R[k]? = some (.fl (.list (ls.map .int)))) (hlen : rs.length = ls.length) (hl : ls.length ≤ 1000) (hP : ∀ q ∈ ls.zip rs, InP n m q) :
    ∃ z cs', stI [some (.ptr 0), some (.dat A), some (.dat B), some (.ptr 1), x, some (.ptr (k + 2)), some (.dat (.list (rs.map .int))), y, none] (.fl st :: .fl (tab cs) :: R) =
      some (.nx, [some (.ptr 0), some (.dat A), some (.dat B), some (.ptr 1), x, some (.ptr (k + 2)), some (.dat (.list (rs.map .int))), z, none], .fl st :: .fl (tab cs') :: R) ∧ Gd n m cs' := by
  have hi : iRng (dCons (dLen (dVar 5)) dNil) [some (.ptr 0), some (.dat A), some (.dat B), some (.ptr 1), x, some (.ptr (k + 2)), some (.dat (.list (rs.map .int))), y, none] (.fl st :: .fl (tab cs) :: R) = some ((itD (rngD 0 ls.length), (rngD 0 ls.length).length), .fl st :: .fl (tab cs) :: R) := by
    have e1 : (dCons (dLen (dVar 5)) dNil) [some (.ptr 0), some (.dat A), some (.dat B), some (.ptr 1), x, some (.ptr (k + 2)), some (.dat (.list (rs.map .int))), y, none] (.fl st :: .fl (tab cs) :: R) = some ([.dat (.int (ls.length : Nat))], .fl st :: .fl (tab cs) :: R) := by
      have h3 : lenD (.list (ls.map .int)) = some ((ls.length : Nat) : Int) := by rw [lenD_list, List.length_map]
      generalize ls.map PyData.int = L at *
      generalize rs.map PyData.int = R' at *
      simp [hR, h3, -lenD_list]
    rw [iRng_e, e1, Option.bind_some, rgw_1 (by omega) (by omega), Int.toNat_natCast]
  obtain ⟨Γ', M', e, ⟨z, hΓ⟩, cs', hM, hg⟩ := sFor_all hi (tg := gNm 7) (body := stB)
    (fun i Γ M => (∃ z, Γ = [some (.ptr 0), some (.dat A), some (.dat B), some (.ptr 1), x, some (.ptr (k + 2)), some (.dat (.list (rs.map .int))), z, none]) ∧ ∃ cs', M = .fl st :: .fl (tab cs') :: R ∧ Gd n m cs')
    ⟨⟨y, rfl⟩, cs, rfl, g⟩ fun i d Γ M hd ⟨⟨z, hΓ⟩, cs', hM, hg⟩ => by
      subst hΓ hM
      have hi : i < ls.length := by
        have := (List.getElem?_eq_some_iff.mp hd).1
        rwa [rngD_length] at this
      rw [rngD_get hi, Int.zero_add] at hd
      cases hd
      have h1 : ls[i]? = some ls[i] := List.getElem?_eq_getElem hi
      have h2 : rs[i]? = some (rs[i]'(by omega)) := List.getElem?_eq_getElem (by omega)
      have hz : (ls.zip rs)[i]? = some (ls[i], rs[i]'(by omega)) := by
        rw [List.getElem?_zip_eq_some]
        exact ⟨h1, h2⟩
      obtain ⟨cs2, e2, g2⟩ := st_step (st := st) (A := A) (B := B) (x := x) (y := none) hg hn hm hR h1 h2 (hP _ (List.mem_of_getElem? hz))
      exact ⟨_, _, _, rfl, e2, ⟨_, rfl⟩, cs2, rfl, g2⟩
  subst hΓ hM
  exact ⟨z, cs', e, hg⟩
end
/-- n copies of 0 .. m - 1 -/
def rep (m n : Nat) : List Int := (List.replicate n ((List.range m).map fun i : Nat => (i : Int))).flatten
theorem rep_len (m n : Nat) : (rep m n).length = n * m := by simp [rep]
theorem rep_mem {m n : Nat} {a : Int} (h : a ∈ rep m n) : 0 ≤ a ∧ a < m := by
  unfold rep at h
  obtain ⟨l, hl, ha⟩ := List.mem_flatten.mp h
  rw [List.mem_replicate] at hl
  rw [hl.2] at ha
  obtain ⟨x, hx, rfl⟩ := List.mem_map.mp ha
  rw [List.mem_range] at hx
  omega
theorem rg_rep {m n : Nat} (hm : m ≤ 100) (hn : n ≤ 100) : oMul (.list (rgD 0 m)) (.int n) = some (.new (.list ((rep m n).map .int))) := by
  have hr : rgD 0 m = ((List.range m).map fun i : Nat => (i : Int)).map .int := by
    unfold rgD
    rw [List.map_map]
    simp
  have hl : (rgD 0 m).length = m := by rw [hr]; simp
  show (if (decide (-1000000 ≤ (n : Int)) && decide ((n : Int) ≤ 1000000) && decide ((rgD 0 m).length * (n : Int).toNat ≤ LIM)) = true then some (OR.new (.list (List.replicate (n : Int).toNat (rgD 0 m)).flatten)) else none) = _
  have hb : m * n ≤ 10000 := by
    calc m * n ≤ 100 * 100 := Nat.mul_le_mul hm hn
      _ = 10000 := rfl
  rw [if_pos, Int.toNat_natCast, hr]
  · rw [rep, List.map_flatten, List.map_replicate]
  · simp [lim_e, hl]
    omega
abbrev stO : DS := sSeq (sAsg 5 (dCall g__law_shuffled (dCons (dVar 0) (dCons (dBin oMul (oLstRg1 (dVar 1)) (dVar 2)) dNil)) false)) (sSeq (sAsg 6 (dBin oMul (oLstRg1 (dVar 2)) (dVar 1))) stI)
section
variable {n m : Nat} {st : D} {G : Sto} {x x5 x6 x7 : Option SV} {cs : Cs}
theorem st_outer (hs : IsSt st) (g : Gd n m cs) (hn : n ≤ 5) (hm : m ≤ 5) :
    ∃ y5 y6 y7 st' cs' G', stO [some (.ptr 0), some (.dat (.int n)), some (.dat (.int m)), some (.ptr 1), x, x5, x6, x7, none] (.fl st :: .fl (tab cs) :: G) =
      some (.nx, [some (.ptr 0), some (.dat (.int n)), some (.dat (.int m)), some (.ptr 1), x, y5, y6, y7, none], .fl st' :: .fl (tab cs') :: G') ∧ IsSt st' ∧ Gd n m cs' := by
  have hmo : m * n ≤ 5 * 5 := Nat.mul_le_mul hm hn
  obtain ⟨ys, st', e1, hp, hs'⟩ := shuffled_spec (R := .fl (tab cs) :: G) (xs := (rep n m).map .int) hs (by rw [List.length_map, rep_len]; omega) (.inl rfl)
  obtain ⟨ls, rfl, hpl⟩ := perm_ints hp
  have hll : ls.length = m * n := by rw [hpl.length_eq, rep_len]
  have hrl : (rep m n).length = ls.length := by rw [rep_len, hll, Nat.mul_comm]
  have m1 : oMul (.list (rgD 0 n)) (.int m) = some (.new (.list ((rep n m).map .int))) := rg_rep (by omega) (by omega)
  have m2 : oMul (.list (rgD 0 m)) (.int n) = some (.new (.list ((rep m n).map .int))) := rg_rep (by omega) (by omega)
  have hP : ∀ q ∈ ls.zip (rep m n), InP n m q := fun q hq => by
    obtain ⟨a, b⟩ := q
    obtain ⟨h1, h2⟩ := List.of_mem_zip hq
    exact ⟨rep_mem (hpl.mem_iff.mp h1), rep_mem h2⟩
  obtain ⟨y7, cs', e2, hg⟩ := st_inner (k := G.length) (R := G ++ [.fl (.list (ls.map .int))]) (st := st') (A := .int n) (B := .int m) (x := x) (y := x7) g hn hm (by simp) hrl (by omega) hP
  refine ⟨some (.ptr (G.length + 2)), some (.dat (.list ((rep m n).map .int))), y7, st', cs', G ++ [.fl (.list (ls.map .int))], ?_, hs', hg⟩
  · refine Eq.trans ?_ e2
    have b1 : -1000000 ≤ (n : Int) := by omega
    have b2 : (n : Int) ≤ 1000000 := by omega
    have b3 : -1000000 ≤ (m : Int) := by omega
    have b4 : (m : Int) ≤ 1000000 := by omega
    have c1 : (dBin oMul (oLstRg1 (dVar 1)) (dVar 2)) [some (.ptr 0), some (.dat (.int n)), some (.dat (.int m)), some (.ptr 1), x, x5, x6, x7, none] (.fl st :: .fl (tab cs) :: G) = some (.dat (.list ((rep n m).map .int)), .fl st :: .fl (tab cs) :: G) := by
      generalize (rep n m).map PyData.int = I at *
      simp [b2, m1]
    have e1' : g__law_shuffled [.ptr 0, .dat (.list ((rep n m).map .int))] (.fl st :: .fl (tab cs) :: G) = some (.ok (.ptr (G.length + 2)), .fl st' :: .fl (tab cs) :: (G ++ [.fl (.list (ls.map .int))])) := e1
    have s1 : sAsg 5 (dCall g__law_shuffled (dCons (dVar 0) (dCons (dBin oMul (oLstRg1 (dVar 1)) (dVar 2)) dNil)) false) [some (.ptr 0), some (.dat (.int n)), some (.dat (.int m)), some (.ptr 1), x, x5, x6, x7, none] (.fl st :: .fl (tab cs) :: G) = some (.nx, [some (.ptr 0), some (.dat (.int n)), some (.dat (.int m)), some (.ptr 1), x, some (.ptr (G.length + 2)), x6, x7, none], .fl st' :: .fl (tab cs) :: (G ++ [.fl (.list (ls.map .int))])) := by
      generalize (dBin oMul (oLstRg1 (dVar 1)) (dVar 2)) = fe at *
      generalize (rep n m).map PyData.int = I at *
      generalize tab cs = T at *
      simp [c1, e1']
    have s2 : sAsg 6 (dBin oMul (oLstRg1 (dVar 2)) (dVar 1)) [some (.ptr 0), some (.dat (.int n)), some (.dat (.int m)), some (.ptr 1), x, some (.ptr (G.length + 2)), x6, x7, none] (.fl st' :: .fl (tab cs) :: (G ++ [.fl (.list (ls.map .int))])) = some (.nx, [some (.ptr 0), some (.dat (.int n)), some (.dat (.int m)), some (.ptr 1), x, some (.ptr (G.length + 2)), some (.dat (.list ((rep m n).map .int))), x7, none], .fl st' :: .fl (tab cs) :: (G ++ [.fl (.list (ls.map .int))])) := by
      generalize (rep m n).map PyData.int = I at *
      generalize tab cs = T at *
      simp [b4, m2]
    unfold stO
    rw [seq_nx s1, seq_nx s2]
abbrev stC : DE := dComp (iSeq (dCB bSorted (dCons (dVar 3) dNil))) (cStep (gNm 8) tYes_ [8] (dBin oAdd (dVar 8) (dTup (dCons (dIx (dVar 3) (dVar 8)) dNil))))
abbrev stR : DI := iRng (dCons (dBin oAdd (dC (.int 1)) (dCall g__law_draw (dCons (dVar 0) (dCons (dC (.int 3)) dNil)))) dNil)
theorem st_eq : g__law_some_tie = dFun 9 (sSeq (sAsg 3 (dDictN true)) (sSeq (sFor stR (gNm 4) stO) (sRet (dCB bTuple (dCons stC dNil))))) false false := rfl
theorem st_comp {A B : D} {x4 : Option SV} (g : Gd n m cs) (hn : n ≤ 5) (hm : m ≤ 5) : stC [some (.ptr 0), some (.dat A), some (.dat B), some (.ptr 1), x4, x5, x6, x7, none] (.fl st :: .fl (tab cs) :: G) = some (.dat (.list ((((cs.map (·.1)).mergeSort le2).map (rowOf cs)).map rowD)), .fl st :: .fl (tab cs) :: G) := by
  have hkl : (cs.map (·.1)).length ≤ 25 := by rw [List.length_map]; exact g.len hn hm
  have hps : (cs.map (·.1)).mergeSort le2 |>.Perm (cs.map (·.1)) := List.mergeSort_perm _ _
  have hso : bSorted [tab cs] = some (.new (.list (((cs.map (·.1)).mergeSort le2).map kd))) := by
    have hsq : seqOf (tab cs) = some ((cs.map (·.1)).map kd) := by
      show some ((cs.map ent).map (·.1)) = _
      rw [List.map_map, List.map_map]; rfl
    simp only [bSorted, hsq, Option.bind_some]
    rw [if_pos (sortOk_kd (by rw [lim_e]; omega)), srt_kd]
  have hpl : ((cs.map (·.1)).mergeSort le2).length ≤ 25 := by rw [hps.length_eq]; exact hkl
  have hmem : ∀ q ∈ (cs.map (·.1)).mergeSort le2, ∃ c, look cs q = some c := fun q hq => by
    obtain ⟨e, he, rfl⟩ := List.mem_map.mp (hps.mem_iff.mp hq)
    exact ⟨_, look_mem g.nd he⟩
  generalize (cs.map (·.1)).mergeSort le2 = ps at *
  have hsq : iSeq (dCB bSorted (dCons (dVar 3) dNil)) [some (.ptr 0), some (.dat A), some (.dat B), some (.ptr 1), x4, x5, x6, x7, none] (.fl st :: .fl (tab cs) :: G) = some ((itD (ps.map kd), (ps.map kd).length), .fl st :: .fl (tab cs) :: G) := by
    generalize ps.map kd = pk at *
    simp [hso]
  have hc := dComp_xs (m := false) (tg := gNm 8) (own := [8]) (te := dBin oAdd (dVar 8) (dTup (dCons (dIx (dVar 3) (dVar 8)) dNil))) (fi := iSeq (dCB bSorted (dCons (dVar 3) dNil))) (Γ := [some (.ptr 0), some (.dat A), some (.dat B), some (.ptr 1), x4, x5, x6, x7, none]) (M0 := .fl st :: .fl (tab cs) :: G) (M := .fl st :: .fl (tab cs) :: G) ps kd
    (fun q => rowD (rowOf cs q)) hsq (by rw [lim_e]; omega) fun q hq => ⟨[some (.ptr 0), some (.dat A), some (.dat B), some (.ptr 1), x4, x5, x6, x7, some (.dat (kd q))], rfl, by
      obtain ⟨c, hc⟩ := hmem q hq
      have hix : ixD (tab cs) (kd q) = some (.dat (.int c)) := by
        unfold tab
        rw [ixD_dict dk_tab]
        show (dLook (cs.map ent) (kd q)).map _ = _
        rw [dLook_ent, hc]; rfl
      have hr : rowD (rowOf cs q) = .tuple [.int q.1, .int q.2, .int c] := by
        show PyData.tuple [.int q.1, .int q.2, .int ((look cs q).getD 0)] = _
        rw [hc]; rfl
      have ha : oAdd (kd q) (.tuple [.int c]) = some (.dat (.tuple [.int q.1, .int q.2, .int c])) := oAdd_tup (by simp [lim_e])
      rw [hr]
      generalize tab cs = T0 at *
      generalize kd q = KQ at *
      simp [hix, lim_e, ha]⟩
  rw [finD_f] at hc
  rw [List.map_map]
  exact hc
theorem some_tie_spec (hs : IsSt st) (hn : n ≤ 5) (hm : m ≤ 5) :
    ∃ (rs : List EL.Row) (d' : D), g__law_some_tie [.ptr 0, .dat (.int n), .dat (.int m)] [.fl st] = some (.ok (.dat (.tuple (rs.map rowD))), [.fl d']) ∧ IsSt d' ∧ rs.length ≤ 25 ∧ (rs.map prR).Nodup ∧ ∀ t ∈ rs, InP n m (prR t) := by
  obtain ⟨v, d1, e1, h0, hv, hs1⟩ := k_draw (m := 3) hs (by decide) (by decide)
  obtain ⟨T, hT⟩ := Int.eq_ofNat_of_zero_le (show 0 ≤ 1 + v by omega)
  have hi : stR [some (.ptr 0), some (.dat (.int n)), some (.dat (.int m)), some (.ptr 1), none, none, none, none, none] [.fl st, .fl (tab [])] = some ((itD (rngD 0 T), (rngD 0 T).length), [.fl d1, .fl (tab [])]) := by
    have c1 : (dCons (dBin oAdd (dC (.int 1)) (dCall g__law_draw (dCons (dVar 0) (dCons (dC (.int 3)) dNil)))) dNil) [some (.ptr 0), some (.dat (.int n)), some (.dat (.int m)), some (.ptr 1), none, none, none, none, none] [.fl st, .fl (tab [])] = some ([.dat (.int (1 + v))], [.fl d1, .fl (tab [])]) := by
      generalize tab [] = T0
      simp [e1]
    unfold stR
    rw [iRng_e, c1, Option.bind_some, hT, rgw_1 (by omega) (by omega), Int.toNat_natCast]
  obtain ⟨Γ', M', e2, ⟨x4, x5, x6, x7, hΓ⟩, st', cs, G, hM, hst, hg⟩ := sFor_all hi (tg := gNm 4) (body := stO)
    (fun i Γ M => (∃ x4 x5 x6 x7, Γ = [some (.ptr 0), some (.dat (.int n)), some (.dat (.int m)), some (.ptr 1), x4, x5, x6, x7, none]) ∧ ∃ st cs G, M = .fl st :: .fl (tab cs) :: G ∧ IsSt st ∧ Gd n m cs)
    ⟨⟨_, _, _, _, rfl⟩, d1, [], [], rfl, hs1, ⟨.nil, fun _ h => (nomatch h)⟩⟩ fun i d Γ M hd ⟨⟨x4, x5, x6, x7, hΓ⟩, st, cs, G, hM, hst, hg⟩ => by
      subst hΓ hM
      obtain ⟨y5, y6, y7, st', cs', G', e, h1, h2⟩ := st_outer (G := G) (x := some (.dat d)) (x5 := x5) (x6 := x6) (x7 := x7) hst hg hn hm
      exact ⟨_, _, _, rfl, e, ⟨_, _, _, _, rfl⟩, st', cs', G', rfl, h1, h2⟩
  subst hΓ hM
  have hps : (cs.map (·.1)).mergeSort le2 |>.Perm (cs.map (·.1)) := List.mergeSort_perm _ _
  have hpr : (((cs.map (·.1)).mergeSort le2).map (rowOf cs)).map prR = (cs.map (·.1)).mergeSort le2 := by
    rw [List.map_map]
    exact (List.map_congr_left fun q _ => rfl).trans (List.map_id _)
  refine ⟨((cs.map (·.1)).mergeSort le2).map (rowOf cs), st', ?_, hst, ?_, ?_, fun t ht => ?_⟩
  · have hc := st_comp (st := st') (G := G) (A := .int n) (B := .int m) (x4 := x4) (x5 := x5) (x6 := x6) (x7 := x7) hg hn hm
    have hf : (sRet (dCB bTuple (dCons stC dNil))) [some (.ptr 0), some (.dat (.int n)), some (.dat (.int m)), some (.ptr 1), x4, x5, x6, x7, none] (.fl st' :: .fl (tab cs) :: G) = some (.rt (.dat (.tuple ((((cs.map (·.1)).mergeSort le2).map (rowOf cs)).map rowD))), [some (.ptr 0), some (.dat (.int n)), some (.dat (.int m)), some (.ptr 1), x4, x5, x6, x7, none], .fl st' :: .fl (tab cs) :: G) := by
      rw [sRet_e, dCB_e, dCons_e, hc]
      simp
    rw [st_eq, dFun_e]
    show ((sSeq _ _) [some (SV.ptr 0), some (.dat (.int n)), some (.dat (.int m)), none, none, none, none, none, none] [.fl st]).bind _ = _
    rw [seq_nx (Γ1 := [some (SV.ptr 0), some (.dat (.int n)), some (.dat (.int m)), some (.ptr 1), none, none, none, none, none]) (M1 := [.fl st, .fl (tab [])]) rfl, seq_nx e2, hf]
    rfl
  · rw [List.length_map, hps.length_eq, List.length_map]
    exact hg.len hn hm
  · rw [hpr]
    exact hps.nodup_iff.mpr hg.nd
  · have h1 : prR t ∈ (((cs.map (·.1)).mergeSort le2).map (rowOf cs)).map prR := List.mem_map.mpr ⟨t, ht, rfl⟩
    rw [hpr] at h1
    exact hg.mem _ (hps.mem_iff.mp h1)
end
end K02
namespace K02
open PySem PySem.Spec PyProof.Rows L2 EL

mutual
/-- ints, and tuples of such -/
def itB : D → Bool
  | .int _ => true
  | .tuple ds => decide (ds.length ≤ 1000) && itBs ds
  | .none => false
  | .bool _ => false
  | .str _ => false
  | .list _ => false
  | .dict _ => false
def itBs : List D → Bool
  | [] => true
  | d :: ds => itB d && itBs ds
end
theorem itBs_mem : ∀ {ds : List D}, itBs ds = true → ∀ d ∈ ds, itB d = true
  | [], _, _, h => nomatch h
  | x :: xs, hp, d, h => by
    rw [itBs, Bool.and_eq_true] at hp
    rcases List.mem_cons.mp h with rfl | h
    · exact hp.1
    · exact itBs_mem hp.2 d h
mutual
theorem itB_plain : ∀ {d : D}, itB d = true → d.plain = true
  | .int _, _ => by simp [PyData.plain]
  | .tuple ds, h => by
    rw [itB, Bool.and_eq_true] at h
    rw [PyData.plain]
    exact itBs_plain h.2
  | .none, h => by simp [itB] at h
  | .bool _, h => by simp [itB] at h
  | .str _, h => by simp [itB] at h
  | .list _, h => by simp [itB] at h
  | .dict _, h => by simp [itB] at h
theorem itBs_plain : ∀ {ds : List D}, itBs ds = true → PyData.plainAll ds = true
  | [], _ => by simp [PyData.plainAll]
  | x :: xs, h => by
    rw [itBs, Bool.and_eq_true] at h
    rw [PyData.plainAll, itB_plain h.1, itBs_plain h.2]; rfl
end
/-- what may be asked -/
def OutB (n : Nat) (d : D) : Prop := d.plain = true ∧ ∀ ds, d = .tuple ds → ds.length ≤ n
theorem outB_tup {n : Nat} {ds : List D} (h : ∀ d ∈ ds, d.plain = true) (hl : ds.length ≤ n) : OutB n (.tuple ds) := ⟨by rw [PyData.plain]; exact plainAll_iff.mpr h, fun es e => by cases e; exact hl⟩
theorem cut_mem {xs : List D} {lo hi : Option Int} {d : D} (h : d ∈ cutL xs lo hi) : d ∈ xs := List.mem_of_mem_drop (List.mem_of_mem_take h)
theorem cut_one {xs : List D} {x : Int} (h : 0 ≤ x) : (cutL xs (some x) (some (x + 1))).length ≤ 1 := by
  obtain ⟨n, rfl⟩ := Int.eq_ofNat_of_zero_le h
  unfold cutL
  rw [show HT.sIx xs.length 0 (some ((n : Nat) : Int)) = min n xs.length from HT.sIx_nat _ _ _, show HT.sIx xs.length xs.length (some (((n : Nat) : Int) + 1)) = min (n + 1) xs.length from HT.sIx_nat _ _ (n + 1)]
  rw [List.length_take]
  omega
abbrev Bt : DS :=
  (sSeq (sIf (tTru (dUn (oIsi "tuple") (dVar 1))) (sSeq (sAsg 3 (dCall g__law_draw (dCons (dVar 0) (dCons (dBin oAdd (dLen (dVar 1)) (dC (.int 1))) dNil))))
  (sSeq (sAsg 4 (dLst (dCons (dBin oAdd (dSl (dVar 1) oN (oS (dVar 3))) (dSl (dVar 1) (oS (dBin oAdd (dVar 3) (dC (.int 1)))) oN)) (dCons (dBin oAdd (dBin oAdd (dSl (dVar 1) oN (oS (dVar 3))) (dSl (dVar 1) (oS (dVar 3)) (oS (dBin oAdd (dVar 3) (dC (.int 1)))))) (dSl (dVar 1) (oS (dVar 3)) oN)) (dCons (dBin oAdd (dVar 1) (dTup (dCons (dC (.int 0)) dNil))) (dCons (dTup dNil) dNil))))))
  (sRet (dCall g__law_one_of (dCons (dVar 0) (dCons (dBin oAdd (dVar 4) (dLst (dCons (dBin oAdd (dSl (dVar 1) (oS (dVar 3)) oN) (dSl (dVar 1) oN (oS (dVar 3)))) (dCons (dUn oRev (dVar 1)) (dCons (dC (.str "shown")) dNil))))) dNil)))))) sNil)
  (sSeq (sIf (tTru (dUn (oIsi "str") (dVar 1))) (sRet (dCall g__law_one_of (dCons (dVar 0) (dCons (dLst (dCons (dC (.str "shut")) (dCons (dC (.str "kept")) (dCons (dC (.str "open")) (dCons (dC (.str "")) (dCons (dBin oAdd (dVar 1) (dC (.str "x"))) (dCons (dSl (dVar 1) (oS (dC (.int 1))) oN) (dCons (dC (.int 1)) dNil)))))))) dNil)))) sNil)
  (sRet (dCall g__law_one_of (dCons (dVar 0) (dCons (dLst (dCons (dBin oAdd (dVar 1) (dC (.int 1))) (dCons (dBin oSub (dVar 1) (dC (.int 1))) (dCons (dUn oNeg (dVar 1)) (dCons (dC (.int 0)) (dCons (dC (.str "1")) (dCons (dTup (dCons (dVar 1) dNil)) dNil))))))) dNil))))))
theorem tail_tup {ds : List D} {t : D} {st : D} {x y : Option SV} (hs : IsSt st) (hl : ds.length ≤ 1000) (hp : ∀ d ∈ ds, d.plain = true) :
    ∃ r st', (Bt [some (.ptr 0), some (.dat (.tuple ds)), some (.dat t), x, y] [.fl st]).bind (fnOut false false 1) = some (.ok (.dat r), [.fl st']) ∧ IsSt st' ∧ OutB 1001 r := by
  obtain ⟨v, d2, e, g0, hv, hs2⟩ := k_draw (m := (ds.length : Int) + 1) hs (by omega) (by omega)
  obtain ⟨n, rfl⟩ := Int.eq_ofNat_of_zero_le g0
  have c1 : cutL ds none (some (n : Int)) = ds.take n := cut_to g0
  have c2 : cutL ds (some (n : Int)) none = ds.drop n := cut_from g0
  have c3 : cutL ds (some ((n : Int) + 1)) none = ds.drop (n + 1) := cut_from (x := (n : Int) + 1) (by omega)
  have c4 := cut_one (xs := ds) g0
  have c5 : ∀ d ∈ cutL ds (some (n : Int)) (some ((n : Int) + 1)), d ∈ ds := fun d h => cut_mem h
  generalize hm : cutL ds (some (n : Int)) (some ((n : Int) + 1)) = mid at c4 c5
  have hn : n ≤ ds.length := by omega
  have l1 : (ds.take n).length = n := by rw [List.length_take]; omega
  have l2 : (ds.drop n).length = ds.length - n := List.length_drop
  have l3 : (ds.drop (n + 1)).length = ds.length - (n + 1) := List.length_drop
  obtain ⟨r, st', e2, hr, hs3⟩ := k_one (xs := [.tuple (ds.take n ++ ds.drop (n + 1)), .tuple (ds.take n ++ mid ++ ds.drop n), .tuple (ds ++ [.int 0]), .tuple [], .tuple (ds.drop n ++ ds.take n), .tuple ds.reverse, .str "shown"]) hs2 (by simp) (by simp)
  have pt : ∀ k, ∀ d ∈ ds.take k, d.plain = true := fun k d h => hp d (List.mem_of_mem_take h)
  have pd : ∀ k, ∀ d ∈ ds.drop k, d.plain = true := fun k d h => hp d (List.mem_of_mem_drop h)
  refine ⟨r, st', ?_, hs3, ?_⟩
  · have a1 : oAdd (.tuple (ds.take n)) (.tuple (ds.drop (n + 1))) = some (.dat (.tuple (ds.take n ++ ds.drop (n + 1)))) := oAdd_tup (by rw [lim_e]; omega)
    have a2 : oAdd (.tuple (ds.take n)) (.tuple mid) = some (.dat (.tuple (ds.take n ++ mid))) := oAdd_tup (by rw [lim_e]; omega)
    have a3 : oAdd (.tuple (ds.take n ++ mid)) (.tuple (ds.drop n)) = some (.dat (.tuple (ds.take n ++ mid ++ ds.drop n))) := oAdd_tup (by rw [List.length_append, lim_e]; omega)
    have a4 : oAdd (.tuple ds) (.tuple [.int 0]) = some (.dat (.tuple (ds ++ [.int 0]))) := oAdd_tup (by rw [lim_e]; simp; omega)
    have a5 : oAdd (.tuple (ds.drop n)) (.tuple (ds.take n)) = some (.dat (.tuple (ds.drop n ++ ds.take n))) := oAdd_tup (by rw [lim_e]; omega)
    generalize ds.take n ++ ds.drop (n + 1) = r1 at *
    generalize ds.take n ++ mid ++ ds.drop n = r2 at *
    generalize ds.take n ++ mid = r3 at *
    generalize ds.drop n ++ ds.take n = r5 at *
    generalize ds ++ [PyData.int 0] = r4 at *
    simp [oIsi, isi, e, c1, c2, c3, hm, a1, a2, a3, a4, a5, e2, lim_e]
  · have hx : ∀ d ∈ ds.take n ++ ds.drop (n + 1), d.plain = true := fun d h => (List.mem_append.mp h).elim (pt n d) (pd (n + 1) d)
    simp only [List.mem_cons, List.not_mem_nil, or_false] at hr
    rcases hr with rfl | rfl | rfl | rfl | rfl | rfl | rfl
    · exact outB_tup hx (by rw [List.length_append]; omega)
    · refine outB_tup (fun d h => ?_) (by rw [List.length_append, List.length_append]; omega)
      rcases List.mem_append.mp h with h | h
      · exact (List.mem_append.mp h).elim (pt n d) fun h => hp d (c5 d h)
      · exact pd n d h
    · refine outB_tup (fun d h => ?_) (by rw [List.length_append]; simp; omega)
      rcases List.mem_append.mp h with h | h
      · exact hp d h
      · rw [List.mem_singleton.mp h]; simp [PyData.plain]
    · exact outB_tup (fun d h => (nomatch h)) (by simp)
    · exact outB_tup (fun d h => (List.mem_append.mp h).elim (pd n d) (pt n d)) (by rw [List.length_append]; omega)
    · exact outB_tup (fun d h => hp d (List.mem_reverse.mp h)) (by rw [List.length_reverse]; omega)
    · exact ⟨by simp [PyData.plain], fun _ e => (nomatch e)⟩
theorem tail_int {i : Int} {t : D} {st : D} {x y : Option SV} (hs : IsSt st) : ∃ r st', (Bt [some (.ptr 0), some (.dat (.int i)), some (.dat t), x, y] [.fl st]).bind (fnOut false false 1) = some (.ok (.dat r), [.fl st']) ∧ IsSt st' ∧ OutB 1001 r := by
  obtain ⟨r, st', e2, hr, hs3⟩ := k_one (xs := [.int (i + 1), .int (i - 1), .int (-i), .int 0, .str "1", .tuple [.int i]]) hs (by simp) (by simp)
  refine ⟨r, st', ?_, hs3, ?_⟩
  · simp [oIsi, isi, e2, lim_e]
  · simp only [List.mem_cons, List.not_mem_nil, or_false] at hr
    rcases hr with rfl | rfl | rfl | rfl | rfl | rfl <;> first | exact outB_tup (fun d h => by rw [List.mem_singleton.mp h]; simp [PyData.plain]) (by simp) | exact ⟨by simp [PyData.plain], fun _ e => (nomatch e)⟩
theorem h_bent (gr : FnT) (ss : List SV) (M : Sto) : h__law_bent gr ss M = dFun 5
  (sSeq (sIf (tAnd_ (tTru (dUn (oIsi "tuple") (dVar 1))) (tAnd_ (tVal (dBin oGt (dLen (dVar 1)) (dC (.int 0)))) (tAnd_ (tVal (dBin oLt (dVar 2) (dC (.int 30)))) (tVal (dBin oGt (dCall g__law_draw (dCons (dVar 0) (dCons (dC (.int 7)) dNil))) (dC (.int 0))))))) (sSeq (sAsg 3 (dCall g__law_draw (dCons (dVar 0) (dCons (dLen (dVar 1)) dNil))))
  (sRet (dBin oAdd (dBin oAdd (dSl (dVar 1) oN (oS (dVar 3))) (dTup (dCons (dCall gr (dCons (dVar 0) (dCons (dIx (dVar 1) (dVar 3)) (dCons (dBin oAdd (dVar 2) (dC (.int 1))) dNil)))) dNil))) (dSl (dVar 1) (oS (dBin oAdd (dVar 3) (dC (.int 1)))) oN)))) sNil)
  Bt) false false ss M := rfl
theorem bent_int (gr : FnT) {i t : Int} {st : D} (hs : IsSt st) : ∃ r st', h__law_bent gr [.ptr 0, .dat (.int i), .dat (.int t)] [.fl st] = some (.ok (.dat r), [.fl st']) ∧ IsSt st' ∧ OutB 1001 r := by
  obtain ⟨r, st', e, h⟩ := tail_int (i := i) (t := .int t) (x := none) (y := none) hs
  refine ⟨r, st', ?_, h⟩
  rw [h_bent]
  generalize Bt = BT at e ⊢
  simp [oIsi, isi]
  exact e
theorem bent_spec : ∀ (n : Nat) {d st : D}, n ≤ 30 → itB d = true → IsSt st → ∃ r st', r__law_bent (n + 1) [.ptr 0, .dat d, .dat (.int (30 - (n : Nat)))] [.fl st] = some (.ok (.dat r), [.fl st']) ∧ IsSt st' ∧ OutB 1001 r := by
  intro n
  induction n with
  | zero =>
    intro d st _ hd hs
    unfold r__law_bent
    cases d with
    | int i => exact bent_int _ hs
    | tuple ds =>
      rw [itB, Bool.and_eq_true, decide_eq_true_iff] at hd
      obtain ⟨r, st', e, h⟩ := tail_tup (ds := ds) (t := .int 30) (x := none) (y := none) hs hd.1 (plainAll_iff.mp (itBs_plain hd.2))
      refine ⟨r, st', ?_, h⟩
      rw [h_bent]
      generalize Bt = BT at e ⊢
      by_cases h0 : 0 < ds.length
      · simp [oIsi, isi, h0]
        exact e
      · simp [oIsi, isi, h0]
        exact e
    | _ => simp [itB] at hd
  | succ n ih =>
    intro d st hn hd hs
    unfold r__law_bent
    cases d with
    | int i => exact bent_int _ hs
    | tuple ds =>
      rw [itB, Bool.and_eq_true, decide_eq_true_iff] at hd
      have hp := plainAll_iff.mp (itBs_plain hd.2)
      by_cases h0 : 0 < ds.length
      · obtain ⟨w, d2, e1, g0, hw, hs2⟩ := k_draw (m := 7) hs (by decide) (by decide)
        have ht : (30 - ((n + 1 : Nat) : Int)) < 30 := by omega
        by_cases hw0 : 0 < w
        · obtain ⟨v, d3, e2, k0, hv, hs3⟩ := k_draw (m := ds.length) hs2 (by omega) (by omega)
          obtain ⟨k, rfl⟩ := Int.eq_ofNat_of_zero_le k0
          have hk : k < ds.length := by omega
          have hx : ds[k]? = some ds[k] := List.getElem?_eq_getElem hk
          obtain ⟨r, st', e3, hs4, hr⟩ := ih (d := ds[k]) (st := d3) (by omega) (itBs_mem hd.2 _ (List.getElem_mem hk)) hs3
          have c1 : cutL ds none (some (k : Int)) = ds.take k := cut_to k0
          have c3 : cutL ds (some ((k : Int) + 1)) none = ds.drop (k + 1) := cut_from (x := (k : Int) + 1) (by omega)
          have hti : (30 - ((n + 1 : Nat) : Int)) + 1 = 30 - (n : Int) := by omega
          have l1 : (ds.take k).length = k := by rw [List.length_take]; omega
          have l3 : (ds.drop (k + 1)).length = ds.length - (k + 1) := List.length_drop
          refine ⟨.tuple (ds.take k ++ [r] ++ ds.drop (k + 1)), st', ?_, hs4, outB_tup (fun d h => ?_) (by simp only [List.length_append, l1, l3, List.length_singleton]; omega)⟩
          · rw [h_bent]
            generalize Bt = BT
            have a1 : oAdd (.tuple (ds.take k)) (.tuple [r]) = some (.dat (.tuple (ds.take k ++ [r]))) := oAdd_tup (by rw [l1, lim_e]; simp; omega)
            have a2 : oAdd (.tuple (ds.take k ++ [r])) (.tuple (ds.drop (k + 1))) = some (.dat (.tuple (ds.take k ++ [r] ++ ds.drop (k + 1)))) := oAdd_tup (by rw [List.length_append, l1, l3, lim_e]; simp; omega)
            have hix : ixD (.tuple ds) (.int (k : Int)) = some (.dat ds[k]) := by
              rw [ixD_tup, EL.atI_nat hx]; rfl
            generalize ds.take k ++ [r] ++ ds.drop (k + 1) = res at *
            generalize ds.take k ++ [r] = res1 at *
            generalize (30 - ((n + 1 : Nat) : Int)) = tt at *
            generalize ds[k] = z at *
            simp [oIsi, isi, h0, ht, e1, hw0, e2, c1, c3, hix, hti, e3, a1, a2, lim_e, -ixD_tup]
          · rcases List.mem_append.mp h with h | h
            · rcases List.mem_append.mp h with h | h
              · exact hp d (List.mem_of_mem_take h)
              · rw [List.mem_singleton.mp h]; exact hr.1
            · exact hp d (List.mem_of_mem_drop h)
        · obtain ⟨r, st', e, h⟩ := tail_tup (ds := ds) (t := .int (30 - ((n + 1 : Nat) : Int))) (x := none) (y := none) hs2 hd.1 hp
          refine ⟨r, st', ?_, h⟩
          rw [h_bent]
          generalize Bt = BT at e ⊢
          generalize (30 - ((n + 1 : Nat) : Int)) = tt at *
          simp [oIsi, isi, h0, ht, e1, hw0]
          exact e
      · obtain ⟨r, st', e, h⟩ := tail_tup (ds := ds) (t := .int (30 - ((n + 1 : Nat) : Int))) (x := none) (y := none) hs hd.1 hp
        refine ⟨r, st', ?_, h⟩
        rw [h_bent]
        generalize Bt = BT at e ⊢
        generalize (30 - ((n + 1 : Nat) : Int)) = tt at *
        simp [oIsi, isi, h0]
        exact e
    | _ => simp [itB] at hd
end K02
namespace K02
open PySem PySem.Spec PyProof.Rows L2 EL

theorem ledF_mem {S acc : List Int} {p : Pr} {j : Int} : j ∈ ledF S acc p ↔ j ∈ acc ∨ (p.1 ∈ S ∧ j = p.2) := by
  unfold ledF
  by_cases h : p.1 ∈ S
  · rw [if_pos h, putI_mem]
    simp [h]
  · rw [if_neg h]
    simp [h]
theorem led_fold {S : List Int} : ∀ (P : List Pr) (acc : List Int), acc.Nodup → (P.foldl (ledF S) acc).Nodup ∧ ∀ j, j ∈ P.foldl (ledF S) acc ↔ j ∈ acc ∨ ∃ i ∈ S, (i, j) ∈ P
  | [], acc, h => ⟨h, fun j => by simp⟩
  | p :: r, acc, h => by
    have h1 : (ledF S acc p).Nodup := by
      unfold ledF
      split
      · exact putI_nd h
      · exact h
    obtain ⟨a, b⟩ := led_fold r _ h1
    refine ⟨a, fun j => ?_⟩
    rw [List.foldl_cons, b, ledF_mem]
    constructor
    · rintro ((h | ⟨h, rfl⟩) | ⟨i, hi, h⟩)
      · exact .inl h
      · exact .inr ⟨p.1, h, List.mem_cons_self⟩
      · exact .inr ⟨i, hi, List.mem_cons_of_mem _ h⟩
    · rintro (h | ⟨i, hi, h⟩)
      · exact .inl (.inl h)
      · rcases List.mem_cons.mp h with h | h
        · subst h
          exact .inl (.inr ⟨hi, rfl⟩)
        · exact .inr ⟨i, hi, h⟩
theorem led_nd {P : List Pr} {S : List Int} : (ledL P S).Nodup := (led_fold P [] .nil).1
theorem led_mem {P : List Pr} {S : List Int} {j : Int} : j ∈ ledL P S ↔ ∃ i ∈ S, (i, j) ∈ P := by
  have := (led_fold (S := S) P [] .nil).2 j
  refine this.trans ?_
  simp
theorem asc_pw {S : List Int} (h : S.Pairwise fun a b => a < b) : ascI S = true := by
  rw [ascI_iff]
  intro j a b h1 h2
  obtain ⟨l1, rfl⟩ := List.getElem?_eq_some_iff.mp h1
  obtain ⟨l2, rfl⟩ := List.getElem?_eq_some_iff.mp h2
  exact List.pairwise_iff_getElem.mp h j (j + 1) l1 l2 (by omega)
theorem barB_tS {n m : Nat} {P : List Pr} {S : List Int} (h : S ∈ subs n) : barB n m P (tS S) = barI n m P S := by
  have h1 := subs_rng h
  show ((S.map PyData.int).all (inRng n) && (ascI ((S.map PyData.int).map unI) && barI n m P ((S.map PyData.int).map unI))) = _
  rw [unI_map, asc_pw h1.2]
  have : (S.map PyData.int).all (inRng n) = true := by
    rw [List.all_eq_true]
    intro d hd
    obtain ⟨i, hi, rfl⟩ := List.mem_map.mp hd
    have := h1.1 i hi
    simp [inRng, this]
  rw [this]; rfl
/-- the law's bars -/
def bars (n m : Nat) (P : List Pr) : List (List Int) := (subs n).filter (barI n m P)
section
variable {n m : Nat} {P : List Pr} {t : Pr → Int} {lf rt : Int → Int} {S : List Int}
theorem bar_in (hP : ∀ p ∈ P, SmallP p) (F : Fl n m (canon P) t lf rt) (h : WayNo n m (canon P) t lf rt S) (hS : S ≠ []) : S ∈ bars n m P := by
  obtain ⟨nd, pw, hr, cl, _, hx⟩ := h
  obtain ⟨r, hrS, h0⟩ := hx hS
  have pw2 : S.Pairwise fun a b => a < b := by
    refine (List.pairwise_and_iff.mpr ⟨pw, nd⟩).imp fun {a b} h => ?_
    obtain ⟨h1, h2⟩ := h
    omega
  refine List.mem_filter.mpr ⟨subs_all hr pw2, ?_⟩
  unfold barI
  rw [decide_eq_true_iff]
  exact bar_thm F nd hr led_nd (fun j => by
    rw [led_mem]
    exact ⟨fun ⟨i, hi, h⟩ => ⟨i, hi, (canon_mem hP).mpr h⟩, fun ⟨i, hi, h⟩ => ⟨i, hi, (canon_mem hP).mp h⟩⟩) (fun i hi j hj => cl i hi j hj) hrS h0
theorem tie_none (hP : ∀ p ∈ P, SmallP p) (F : Fl n m (canon P) t lf rt) (hz : ∀ i : Int, 0 ≤ i → i < n → lf i ≤ 0) : bars n m P = [] := by
  unfold bars
  rw [List.filter_eq_nil_iff]
  intro S hS hb
  unfold barI at hb
  rw [decide_eq_true_iff] at hb
  have h1 := subs_rng hS
  exact tie_thm F hz (h1.2.imp fun h => by omega) h1.1 led_nd (fun j => by
    rw [led_mem]
    exact ⟨fun ⟨i, hi, h⟩ => ⟨i, hi, (canon_mem hP).mpr h⟩, fun ⟨i, hi, h⟩ => ⟨i, hi, (canon_mem hP).mp h⟩⟩) hb
theorem rowsT_cons {p : Pr} {Q : List Pr} : rowsT (p :: Q) t = if 0 < t p then (p.1, p.2, t p) :: rowsT Q t else rowsT Q t := by
  unfold rowsT
  by_cases h : 0 < t p
  · rw [if_pos h, List.filter_cons_of_pos (by simpa using h)]; rfl
  · rw [if_neg h, List.filter_cons_of_neg (by simpa using h)]
theorem sumAt_cons {p : Nat} {r : EL.Row} {rs : List EL.Row} {i : Nat} : sumAt p (r :: rs) i = (if plc p r = (i : Int) then r.2.2 else 0) + sumAt p rs i := by
  unfold sumAt
  by_cases h : plc p r = (i : Int)
  · rw [if_pos h, List.filter_cons_of_pos (by simpa using h)]; simp
  · rw [if_neg h, List.filter_cons_of_neg (by simpa using h)]; simp
theorem sum_0 (nn : ∀ p, 0 ≤ t p) {i : Nat} : ∀ {Q : List Pr}, sumAt 0 (rowsT Q t) i = rowS Q t i
  | [] => rfl
  | p :: Q => by
    have ih := sum_0 nn (i := i) (Q := Q)
    unfold rowS at ih ⊢
    rw [ws_cons, rowsT_cons, ← ih]
    have h0 := nn p
    by_cases h : 0 < t p
    · rw [if_pos h, sumAt_cons]
      show (if p.1 = (i : Int) then t p else 0) + _ = _
      simp only [decide_eq_true_eq]
    · have : t p = 0 := by omega
      rw [if_neg h, this]
      split <;> omega
theorem sum_1 (nn : ∀ p, 0 ≤ t p) {i : Nat} : ∀ {Q : List Pr}, sumAt 1 (rowsT Q t) i = colS Q t i
  | [] => rfl
  | p :: Q => by
    have ih := sum_1 nn (i := i) (Q := Q)
    unfold colS at ih ⊢
    rw [ws_cons, rowsT_cons, ← ih]
    have h0 := nn p
    by_cases h : 0 < t p
    · rw [if_pos h, sumAt_cons]
      show (if p.2 = (i : Int) then t p else 0) + _ = _
      simp only [decide_eq_true_eq]
    · have : t p = 0 := by omega
      rw [if_neg h, this]
      split <;> omega
def upI (n : Nat) : List Int := (List.range n).map fun k : Nat => (k : Int)
theorem upI_mem {n : Nat} {i : Int} : i ∈ upI n ↔ 0 ≤ i ∧ i < n := by
  unfold upI
  rw [List.mem_map]
  constructor
  · rintro ⟨k, hk, rfl⟩
    rw [List.mem_range] at hk
    omega
  · intro h
    exact ⟨i.toNat, List.mem_range.mpr (by omega), by omega⟩
theorem upI_nd {n : Nat} : (upI n).Nodup := by
  unfold upI
  exact List.pairwise_map.mpr (List.nodup_range.imp fun h e => h (by omega))
theorem upI_len {n : Nat} : (upI n).length = n := by simp [upI]
theorem cols_full {Q : List Pr} (F : Fl n m Q t lf rt) (hz : ∀ i : Int, 0 ≤ i → i < n → lf i ≤ 0) {j : Int} (h : 0 ≤ j ∧ j < m) : colS Q t j = n := by
  have hle : ∀ j ∈ upI m, colS Q t j ≤ n := fun j hj => by
    have h1 := upI_mem.mp hj
    have := F.re j h1.1 h1.2
    have := F.re0 j h1.1 h1.2
    omega
  have h2 := hle j (upI_mem.mpr h)
  refine Classical.byContradiction fun hne => ?_
  have hlt := sum_ltC hle (upI_mem.mpr h) (show colS Q t j < n by omega)
  have hr : ((upI n).map (rowS Q t)).sum = (upI n).length * (m : Int) := sum_const fun i hi => by
    have h1 := upI_mem.mp hi
    have := F.le i h1.1 h1.2
    have := F.le0 i h1.1 h1.2
    have := hz i h1.1 h1.2
    omega
  rw [cols_sum upI_nd] at hlt
  rw [rows_sum upI_nd] at hr
  have e1 : ws (fun p => decide (p.2 ∈ upI m)) Q t = ws (fun p => decide (p.1 ∈ upI n)) Q t := ws_congr fun p hp => by
    have := F.rng p hp
    rw [decide_eq_true (upI_mem.mpr this.1), decide_eq_true (upI_mem.mpr this.2)]
  rw [e1, hr, upI_len, upI_len, Int.mul_comm] at hlt
  omega
theorem canon_asc {P : List Pr} (hP : ∀ p ∈ P, SmallP p) : (canon P).Pairwise fun p q => p.1 < q.1 ∨ (p.1 = q.1 ∧ p.2 < q.2) := by
  have h1 : (canon P).Pairwise fun p q => codeP p ≤ codeP q ∧ p ≠ q := List.pairwise_and_iff.mpr ⟨allP_pw.filter _, canon_nd P⟩
  refine List.Pairwise.imp_of_mem (fun {p q} hp hq h => ?_) h1
  obtain ⟨h2, h3⟩ := h
  obtain ⟨⟨a1, a2⟩, a3, a4⟩ := hP p ((canon_mem hP).mp hp)
  obtain ⟨⟨b1, b2⟩, b3, b4⟩ := hP q ((canon_mem hP).mp hq)
  unfold codeP at h2
  have : ¬ (p.1 = q.1 ∧ p.2 = q.2) := fun z => h3 (Prod.ext z.1 z.2)
  omega
theorem tie_rowsT (hP : ∀ p ∈ P, SmallP p) (hn : 0 < n) (hm : 0 < m) (F : Fl n m (canon P) t lf rt) (hz : ∀ i : Int, 0 ≤ i → i < n → lf i ≤ 0) : Tie n m (rowsT (canon P) t) := by
  have hrow : ∀ i : Nat, i < n → rowS (canon P) t i = m := fun i hi => by
    have h1 := F.le i (by omega) (by omega)
    have h2 := F.le0 i (by omega) (by omega)
    have h3 := hz i (by omega) (by omega)
    omega
  refine ⟨?_, fun e => ?_, fun r hr => ?_, ?_, ?_, ?_⟩
  · unfold rowsT
    rw [List.length_map]
    have h1 := List.length_filter_le (fun p => decide (0 < t p)) (canon P)
    have h2 := canon_le (P := P)
    omega
  · have h1 := sum_0 F.nn (i := 0) (Q := canon P)
    rw [e, hrow 0 hn] at h1
    have h2 : sumAt 0 [] 0 = 0 := rfl
    omega
  · unfold rowsT at hr
    obtain ⟨p, hp, rfl⟩ := List.mem_map.mp hr
    rw [List.mem_filter] at hp
    have h1 := F.rng p hp.1
    exact ⟨h1.1.1, h1.1.2, h1.2.1, h1.2.2, of_decide_eq_true hp.2⟩
  · rw [asc_iff]
    intro j a b h1 h2
    have hpw : (rowsT (canon P) t).Pairwise fun a b => lt2 a b = true := by
      unfold rowsT
      refine List.pairwise_map.mpr (((canon_asc hP).filter _).imp fun {p q} h => ?_)
      exact decide_eq_true h
    obtain ⟨l1, rfl⟩ := List.getElem?_eq_some_iff.mp h1
    obtain ⟨l2, rfl⟩ := List.getElem?_eq_some_iff.mp h2
    exact List.pairwise_iff_getElem.mp hpw j (j + 1) l1 l2 (by omega)
  · refine evenB_rep (n := n) (c := (m : Int)) hn (by omega) sums_len fun x hx => ?_
    obtain ⟨i, hi, rfl⟩ := List.mem_map.mp hx
    rw [sum_0 F.nn]
    exact hrow i (List.mem_range.mp hi)
  · refine evenB_rep (n := m) (c := (n : Int)) hm (by omega) sums_len fun x hx => ?_
    obtain ⟨i, hi, rfl⟩ := List.mem_map.mp hx
    rw [sum_1 F.nn]
    have := List.mem_range.mp hi
    exact cols_full F hz ⟨by omega, by omega⟩
theorem inPB_rowsT (hP : ∀ p ∈ P, SmallP p) : inPB P (.tuple ((rowsT (canon P) t).map rowD)) = true := by
  rw [inPB_rows, List.all_map, List.all_eq_true]
  intro r hr
  unfold rowsT at hr
  obtain ⟨p, hp, rfl⟩ := List.mem_map.mp hr
  rw [List.mem_filter] at hp
  exact decide_eq_true ((canon_mem hP).mp hp.1)
end
end K02
namespace K02
open PySem PySem.Spec PyProof.Rows L2 EL

abbrev s1 : DS := (sAsg 2 (dBin oAdd (dC (.int 1)) (dCall g__law_draw (dCons (dVar 1) (dCons (dC (.int 5)) dNil)))))
abbrev s2 : DS := (sAsg 3 (dBin oAdd (dC (.int 1)) (dCall g__law_draw (dCons (dVar 1) (dCons (dC (.int 5)) dNil)))))
abbrev s3 : DS := (sAsg 4 (dLstP dNil))
abbrev s4 : DS := (sAsg 5 (dBin oAdd (dC (.int 1)) (dCall g__law_draw (dCons (dVar 1) (dCons (dC (.int 4)) dNil)))))
abbrev s5 : DS := (sFor (iRng (dCons (dVar 2) dNil)) (gNm 6) (sFor (iRng (dCons (dVar 3) dNil)) (gNm 7) (sIf (tVal (dBin oLt (dCall g__law_draw (dCons (dVar 1) (dCons (dC (.int 5)) dNil))) (dVar 5))) (sExpr (dMethW "list" cAppend (dVar 4) (dCons (dTup (dCons (dVar 6) (dCons (dVar 7) dNil))) dNil))) sNil)))
abbrev s6 : DS := (sIf (tVal (dBin oEq (dCall g__law_draw (dCons (dVar 1) (dCons (dC (.int 3)) dNil))) (dC (.int 0)))) (sSeq (sAsg 8 (dCall g__law_some_tie (dCons (dVar 1) (dCons (dVar 2) (dCons (dVar 3) dNil)))))
  (sAsg 4 (dBin oAdd (dVar 4) (dComp (iSeq (dVar 8)) (cStep (gNm 15) (tVal (dBin oNotIn (dSl (dVar 15) oN (oS (dC (.int 2)))) (dVar 4))) [15] (dSl (dVar 15) oN (oS (dC (.int 2)))))) true))) sNil)
abbrev s7 : DS := (sAsg 4 (dCB bTuple (dCons (dCall g__law_shuffled (dCons (dVar 1) (dCons (dVar 4) dNil)) false) dNil)))
abbrev s8 : DS := (sAsg 9 (dComp (iSeq (dCall g__law_subsets_of (dCons (dVar 2) dNil))) (cStep (gNm 16) (tTru (dCall g__law_is_few (dCons (dVar 2) (dCons (dVar 3) (dCons (dVar 4) (dCons (dVar 16) dNil)))))) [16] (dVar 16))))
abbrev s9 : DS := (sAsg 10 (dCall g_tie_within (dCons (dVar 2) (dCons (dVar 3) (dCons (dVar 4) dNil)))))
abbrev s10 : DS := (sIf (tOr_ (tNot_ (tTru (dUn (oIsi "tuple") (dVar 10)))) (tOr_ (tVal (dBin oNe (dLen (dVar 10)) (dC (.int 2)))) (tVal (dBin oNe (dIx (dVar 10) (dC (.int 0))) (dIx (dLst (dCons (dC (.str "tie")) (dCons (dC (.str "bar")) dNil))) (dCB bInt (dCons (dBin oNe (dVar 9) (dLst dNil)) dNil))))))) (sRet (dC (.bool false))) sNil)
abbrev s11 : DS := (sIf (tVal (dBin oEq (dIx (dVar 10) (dC (.int 0))) (dC (.str "tie")))) (sIf (tOr_ (tNot_ (tTru (dCall g__law_is_tie (dCons (dIx (dVar 10) (dC (.int 1))) (dCons (dVar 2) (dCons (dVar 3) dNil)))))) (tNot_ (tTru (dCB bAll (dCons (dComp (iSeq (dIx (dVar 10) (dC (.int 1)))) (cStep (gNm 15) tYes_ [15] (dBin oIn (dSl (dVar 15) oN (oS (dC (.int 2)))) (dVar 4)))) dNil))))) (sRet (dC (.bool false))) sNil) (sIf (tVal (dBin oNotIn (dIx (dVar 10) (dC (.int 1))) (dVar 9))) (sRet (dC (.bool false))) sNil))
abbrev s12 : DS := (sAsg 11 (dLstP (dCons (dIx (dVar 10) (dC (.int 1))) (dCons (dTup dNil) (dCons (dTup (dCons (dC (.int 0)) dNil)) (dCons (dC (.int 7)) (dCons (dCB bTuple (dCons (dComp (iRng (dCons (dVar 2) dNil)) (cStep (gNm 17) tYes_ [17] (dVar 17))) dNil)) (dCons (dCall g__law_some_tie (dCons (dVar 1) (dCons (dVar 2) (dCons (dVar 3) dNil)))) dNil))))))))
abbrev s13 : DS := (sFor (iRng (dCons (dC (.int 8)) dNil)) (gNm 12) (sSeq (sExpr (dMethW "list" cAppend (dVar 11) (dCons (dCall g__law_bent (dCons (dVar 1) (dCons (dIx (dVar 10) (dC (.int 1))) (dCons (dC (.int 0)) dNil)))) dNil)))
  (sExpr (dMethW "list" cAppend (dVar 11) (dCons (dCall g__law_one_of (dCons (dVar 1) (dCons (dCall g__law_subsets_of (dCons (dVar 2) dNil)) dNil))) dNil)))))
abbrev s14 : DS := (sFor (iSeq (dVar 11)) (gNm 13) (sSeq (sIf (tNot_ (tTru (dCall g__law_says (dCons (dCall g_shows_bar (dCons (dVar 2) (dCons (dVar 3) (dCons (dVar 4) (dCons (dVar 13) dNil))))) (dCons (dCall g__law_is_few (dCons (dVar 2) (dCons (dVar 3) (dCons (dVar 4) (dCons (dVar 13) dNil))))) dNil))))) (sRet (dC (.bool false))) sNil)
  (sSeq (sAsg 14 (dAnd (dCall g__law_is_tie (dCons (dVar 13) (dCons (dVar 2) (dCons (dVar 3) dNil)))) (dCB bAll (dCons (dComp (iSeq (dVar 13)) (cStep (gNm 15) tYes_ [15] (dBin oIn (dSl (dVar 15) oN (oS (dC (.int 2)))) (dVar 4)))) dNil))))
  (sIf (tNot_ (tTru (dCall g__law_says (dCons (dCall g_shows_tie_within (dCons (dVar 2) (dCons (dVar 3) (dCons (dVar 4) (dCons (dVar 13) dNil))))) (dCons (dVar 14) dNil))))) (sRet (dC (.bool false))) sNil))))
abbrev s15 : DS := (sRet (dC (.bool true)))
theorem b_law_eq : b_law = (sSeq s1 (sSeq s2 (sSeq s3 (sSeq s4 (sSeq s5 (sSeq s6 (sSeq s7 (sSeq s8 (sSeq s9 (sSeq s10 (sSeq s11 (sSeq s12 (sSeq s13 (sSeq s14 s15)))))))))))))) := rfl
abbrev G (n m : Nat) (x4 x5 x6 x7 x8 x9 x10 x11 x12 x13 x14 x15 x16 x17 : Option SV) : Ga := [none, some (.ptr 0), some (.dat (.int n)), some (.dat (.int m)), x4, x5, x6, x7, x8, x9, x10, x11, x12, x13, x14, x15, x16, x17]
abbrev G0 : Ga := [none, some (.ptr 0), none, none, none, none, none, none, none, none, none, none, none, none, none, none, none, none]
theorem st1 {d : D} (hs : IsSt d) : ∃ (n : Nat) (d' : D), s1 G0 [.fl d] = some (.nx, G0.set 2 (some (.dat (.int n))), [.fl d']) ∧ IsSt d' ∧ 0 < n ∧ n ≤ 5 := by
  obtain ⟨v, d1, e1, h0, hv, hs1⟩ := k_draw (m := 5) hs (by decide) (by decide)
  obtain ⟨T, hT⟩ := Int.eq_ofNat_of_zero_le (show 0 ≤ 1 + v by omega)
  refine ⟨T, d1, ?_, hs1, by omega, by omega⟩
  rw [← hT]
  simp [e1]
theorem st2 {d : D} {n : Nat} (hs : IsSt d) : ∃ (m : Nat) (d' : D), s2 (G0.set 2 (some (.dat (.int n)))) [.fl d] = some (.nx, G n m none none none none none none none none none none none none none none, [.fl d']) ∧ IsSt d' ∧ 0 < m ∧ m ≤ 5 := by
  obtain ⟨v, d1, e1, h0, hv, hs1⟩ := k_draw (m := 5) hs (by decide) (by decide)
  obtain ⟨T, hT⟩ := Int.eq_ofNat_of_zero_le (show 0 ≤ 1 + v by omega)
  refine ⟨T, d1, ?_, hs1, by omega, by omega⟩
  unfold G
  rw [← hT]
  simp [e1]
section
variable {n m : Nat} {d : D}
theorem st3 : s3 (G n m none none none none none none none none none none none none none none) [.fl d] = some (.nx, G n m (some (.ptr 1)) none none none none none none none none none none none none none, [.fl d, .fl (.list [])]) := by
  simp [lim_e]
theorem st4 (hs : IsSt d) : ∃ (w : Int) (d' : D), s4 (G n m (some (.ptr 1)) none none none none none none none none none none none none none) [.fl d, .fl (.list [])] = some (.nx, G n m (some (.ptr 1)) (some (.dat (.int w))) none none none none none none none none none none none none, [.fl d', .fl (.list [])]) ∧ IsSt d' := by
  obtain ⟨v, d1, e1, h0, hv, hs1⟩ := k_draw (m := 4) hs (by decide) (by decide)
  refine ⟨1 + v, d1, ?_, hs1⟩
  simp [e1]
abbrev b5 : DS := sIf (tVal (dBin oLt (dCall g__law_draw (dCons (dVar 1) (dCons (dC (.int 5)) dNil))) (dVar 5))) (sExpr (dMethW "list" cAppend (dVar 4) (dCons (dTup (dCons (dVar 6) (dCons (dVar 7) dNil))) dNil))) sNil
abbrev G5 (n m : Nat) (w : Int) (x6 x7 : Option SV) : Ga := G n m (some (.ptr 1)) (some (.dat (.int w))) x6 x7 none none none none none none none none none none
theorem b5_step {w i j : Int} {P : List Pr} (hs : IsSt d) (hl : P.length ≤ 1000) : ∃ (d' : D) (P' : List Pr), b5 (G5 n m w (some (.dat (.int i))) (some (.dat (.int j)))) [.fl d, .fl (.list (P.map kd))] = some (.nx, G5 n m w (some (.dat (.int i))) (some (.dat (.int j))), [.fl d', .fl (.list (P'.map kd))]) ∧ IsSt d' ∧ (P' = P ∨ P' = P ++ [(i, j)]) := by
  obtain ⟨v, d1, e1, h0, hv, hs1⟩ := k_draw (m := 5) hs (by decide) (by decide)
  have ht : tVal (dBin oLt (dCall g__law_draw (dCons (dVar 1) (dCons (dC (.int 5)) dNil))) (dVar 5)) (G5 n m w (some (.dat (.int i))) (some (.dat (.int j)))) [.fl d, .fl (.list (P.map kd))] = some (decide (v < w), [.fl d1, .fl (.list (P.map kd))]) := by
    generalize P.map kd = PD
    simp [e1]
  by_cases h : v < w
  · rw [decide_eq_true h] at ht
    refine ⟨d1, P ++ [(i, j)], ?_, hs1, .inr rfl⟩
    have hk : (P ++ [(i, j)]).map kd = P.map kd ++ [.tuple [.int i, .int j]] := by rw [List.map_append]; rfl
    have hlen : (P.map kd).length < LIM := by rw [List.length_map, lim_e]; omega
    unfold b5
    rw [hk, sIf_e, ht, Option.bind_some, if_pos rfl]
    generalize P.map kd = PD at *
    simp [lim_e] at hlen ⊢
    simp [hlen, lim_e]
  · rw [decide_eq_false h] at ht
    refine ⟨d1, P, ?_, hs1, .inl rfl⟩
    unfold b5
    rw [sIf_e, ht, Option.bind_some, if_neg Bool.false_ne_true, sNil_e]
theorem rng_n {Γ : Ga} {M : Sto} {i k : Nat} (h : Γ[i]? = some (some (.dat (.int k)))) (hk : k ≤ 1000) : iRng (dCons (dVar i) dNil) Γ M = some ((itD (rngD 0 k), (rngD 0 k).length), M) := by
  simp [h]
  rw [rgw_1 (by omega) (by omega), Int.toNat_natCast, rngD_length]
theorem row5 {w : Int} {i : Nat} {x7 : Option SV} {P : List Pr} (hs : IsSt d) (hl : P.length ≤ 500) (hm : m ≤ 5) : ∃ (x : Option SV) (d' : D) (P' : List Pr), sFor (iRng (dCons (dVar 3) dNil)) (gNm 7) b5 (G5 n m w (some (.dat (.int i))) x7) [.fl d, .fl (.list (P.map kd))] = some (.nx, G5 n m w (some (.dat (.int i))) x, [.fl d', .fl (.list (P'.map kd))]) ∧ IsSt d' ∧ P'.length ≤ P.length + m ∧ ∀ p ∈ P', p ∈ P ∨ (p.1 = i ∧ 0 ≤ p.2 ∧ p.2 < m) := by
  obtain ⟨Γ', M', e, ⟨x, hΓ⟩, d', P', hM, hs', hl', hp⟩ := sFor_all (rng_n (Γ := G5 n m w (some (.dat (.int i))) x7) (M := [.fl d, .fl (.list (P.map kd))]) (i := 3) (k := m) rfl (by omega)) (tg := gNm 7) (body := b5)
    (fun k Γ M => (∃ x, Γ = G5 n m w (some (.dat (.int i))) x) ∧ ∃ (d' : D) (P' : List Pr), M = [.fl d', .fl (.list (P'.map kd))] ∧ IsSt d' ∧ P'.length ≤ P.length + k ∧ ∀ p ∈ P', p ∈ P ∨ (p.1 = i ∧ 0 ≤ p.2 ∧ p.2 < m))
    ⟨⟨x7, rfl⟩, d, P, rfl, hs, by omega, fun p hp => .inl hp⟩ fun k z Γ M hd ⟨⟨x, hΓ⟩, d', P', hM, hs', hl', hp⟩ => by
      subst hΓ hM
      have hi : k < m := by
        have := (List.getElem?_eq_some_iff.mp hd).1
        rwa [rngD_length] at this
      rw [rngD_get hi, Int.zero_add] at hd
      cases hd
      obtain ⟨d2, P2, e2, hs2, h2⟩ := b5_step (n := n) (m := m) (w := w) (i := i) (j := k) (P := P') hs' (by omega)
      refine ⟨_, _, _, rfl, e2, ⟨_, rfl⟩, d2, P2, rfl, hs2, ?_, fun p hp2 => ?_⟩
      · rcases h2 with rfl | rfl
        · omega
        · rw [List.length_append, List.length_singleton]; omega
      · rcases h2 with rfl | rfl
        · exact hp p hp2
        · rcases List.mem_append.mp hp2 with hp2 | hp2
          · exact hp p hp2
          · rw [List.mem_singleton.mp hp2]
            exact .inr ⟨rfl, by simp only; omega, by simp only; omega⟩
  subst hΓ hM
  rw [rngD_length] at hl'
  exact ⟨x, d', P', e, hs', hl', hp⟩
theorem st5 {w : Int} (hs : IsSt d) (hn : n ≤ 5) (hm : m ≤ 5) : ∃ (x6 x7 : Option SV) (d' : D) (P : List Pr), s5 (G5 n m w none none) [.fl d, .fl (.list [])] = some (.nx, G5 n m w x6 x7, [.fl d', .fl (.list (P.map kd))]) ∧ IsSt d' ∧ P.length ≤ 25 ∧ ∀ p ∈ P, InP n m p := by
  obtain ⟨Γ', M', e, ⟨x6, x7, hΓ⟩, d', P', hM, hs', hl', hp⟩ := sFor_all (rng_n (Γ := G5 n m w none none) (M := [.fl d, .fl (.list (([] : List Pr).map kd))]) (i := 2) (k := n) rfl (by omega)) (tg := gNm 6) (body := sFor (iRng (dCons (dVar 3) dNil)) (gNm 7) b5)
    (fun k Γ M => (∃ x6 x7, Γ = G5 n m w x6 x7) ∧ ∃ (d' : D) (P' : List Pr), M = [.fl d', .fl (.list (P'.map kd))] ∧ IsSt d' ∧ P'.length ≤ k * m ∧ ∀ p ∈ P', InP n m p)
    ⟨⟨none, none, rfl⟩, d, [], rfl, hs, by simp, fun p hp => nomatch hp⟩ fun k z Γ M hd ⟨⟨x6, x7, hΓ⟩, d', P', hM, hs', hl', hp⟩ => by
      subst hΓ hM
      have hi : k < n := by
        have := (List.getElem?_eq_some_iff.mp hd).1
        rwa [rngD_length] at this
      rw [rngD_get hi, Int.zero_add] at hd
      cases hd
      have hkm : k * m ≤ 5 * 5 := Nat.mul_le_mul (by omega) hm
      obtain ⟨x, d2, P2, e2, hs2, h2, hp2⟩ := row5 (n := n) (m := m) (w := w) (i := k) (x7 := x7) (P := P') hs' (by omega) hm
      refine ⟨_, _, _, rfl, e2, ⟨_, _, rfl⟩, d2, P2, rfl, hs2, by rw [Nat.succ_mul]; omega, fun p h => ?_⟩
      rcases hp2 p h with h | ⟨h1, h3, h4⟩
      · exact hp p h
      · exact ⟨⟨by omega, by omega⟩, h3, h4⟩
  subst hΓ hM
  rw [rngD_length] at hl'
  have hnm : n * m ≤ 5 * 5 := Nat.mul_le_mul hn hm
  exact ⟨x6, x7, d', P', e, hs', by omega, hp⟩
end
end K02
namespace K02
open PySem PySem.Spec PyProof.Rows L2 EL

theorem perm_kds {ys : List D} {P : List Pr} (h : ys.Perm (P.map kd)) : ∃ P' : List Pr, ys = P'.map kd ∧ P'.Perm P := by
  refine ⟨ys.map unkd, ?_, ?_⟩
  · rw [List.map_map]
    refine (List.map_id ys).symm.trans (List.map_congr_left fun d hd => ?_)
    obtain ⟨i, _, rfl⟩ := List.mem_map.mp (h.mem_iff.mp hd)
    rfl
  · have := h.map unkd
    rw [List.map_map] at this
    refine this.trans ?_
    have e : P.map (unkd ∘ kd) = P := (List.map_congr_left fun i _ => rfl).trans (List.map_id P)
    rw [e]
theorem if_t2 {ft : DT} {f g : DS} {Γ : Ga} {M M1 : Sto} {b : Bool} (h : ft Γ M = some (b, M1)) (hb : b = true) : sIf ft f g Γ M = f Γ M1 := by
  rw [sIf_e, h, hb]; rfl
theorem if_f2 {ft : DT} {f g : DS} {Γ : Ga} {M M1 : Sto} {b : Bool} (h : ft Γ M = some (b, M1)) (hb : b = false) : sIf ft f g Γ M = g Γ M1 := by
  rw [sIf_e, h, hb]; rfl
abbrev c6 : DE := dComp (iSeq (dVar 8)) (cStep (gNm 15) (tVal (dBin oNotIn (dSl (dVar 15) oN (oS (dC (.int 2)))) (dVar 4))) [15] (dSl (dVar 15) oN (oS (dC (.int 2)))))
abbrev t6 : DT := tVal (dBin oEq (dCall g__law_draw (dCons (dVar 1) (dCons (dC (.int 3)) dNil))) (dC (.int 0)))
abbrev a6 : DS := sAsg 8 (dCall g__law_some_tie (dCons (dVar 1) (dCons (dVar 2) (dCons (dVar 3) dNil))))
theorem s6_e : s6 = sIf t6 (sSeq a6 (sAsg 4 (dBin oAdd (dVar 4) c6 true))) sNil := rfl
section
variable {n m : Nat} {d : D} {x5 x6 x7 x8 : Option SV}
theorem c6_e {P : List Pr} {rs : List EL.Row} (hl : rs.length ≤ 1000) : c6 (G n m (some (.ptr 1)) x5 x6 x7 (some (.dat (.tuple (rs.map rowD)))) none none none none none none none none none) [.fl d, .fl (.list (P.map kd))] = some (.dat (.list (((rs.filter fun t => !decide (prR t ∈ P)).map prR).map kd)), [.fl d, .fl (.list (P.map kd))]) := by
  have e := dComp_map (m := false) (fi := iSeq (dVar 8)) (ds := rs.map rowD) (tg := gNm 15) (own := [15]) (tt := tVal (dBin oNotIn (dSl (dVar 15) oN (oS (dC (.int 2)))) (dVar 4))) (te := dSl (dVar 15) oN (oS (dC (.int 2)))) (Γ := G n m (some (.ptr 1)) x5 x6 x7 (some (.dat (.tuple (rs.map rowD)))) none none none none none none none none none) (M0 := [.fl d, .fl (.list (P.map kd))]) (M := [.fl d, .fl (.list (P.map kd))])
    (fun d => !decide (prR (unrow d) ∈ P)) (fun d => kd (prR (unrow d))) rfl (by rw [List.length_map, lim_e]; omega) fun z hd => by
      obtain ⟨t, _, rfl⟩ := List.mem_map.mp hd
      have h1 := cut2 t
      have h2 := notIn_kd (prR t) P
      have h3 : unrow (rowD t) = t := rfl
      refine ⟨G n m (some (.ptr 1)) x5 x6 x7 (some (.dat (.tuple (rs.map rowD)))) none none none none none none (some (.dat (rowD t))) none none, rfl, ?_, fun _ => ?_⟩
      · rw [h3]
        generalize rowD t = RT at *
        generalize kd (prR t) = KT at *
        generalize P.map kd = PD at *
        simp [h1, h2]
      · rw [h3]
        generalize rowD t = RT at *
        generalize kd (prR t) = KT at *
        simp [h1]
  refine e.trans ?_
  rw [finD_f, List.filter_map, List.map_map, List.map_map]; rfl
theorem st6 {P : List Pr} (hs : IsSt d) (hn : n ≤ 5) (hm : m ≤ 5) (hl : P.length ≤ 25) (hP : ∀ p ∈ P, InP n m p) :
    ∃ (p : Nat) (x8 : Option SV) (d' : D) (R : Sto) (P' : List Pr), s6 (G n m (some (.ptr 1)) x5 x6 x7 none none none none none none none none none none) [.fl d, .fl (.list (P.map kd))] = some (.nx, G n m (some (.ptr (p + 1))) x5 x6 x7 x8 none none none none none none none none none, .fl d' :: R) ∧ R[p]? = some (.fl (.list (P'.map kd))) ∧ IsSt d' ∧ P'.length ≤ 50 ∧ ∀ p ∈ P', InP n m p := by
  obtain ⟨v, d1, e1, h0, hv, hs1⟩ := k_draw (m := 3) hs (by decide) (by decide)
  have ht : t6 (G n m (some (.ptr 1)) x5 x6 x7 none none none none none none none none none none) [.fl d, .fl (.list (P.map kd))] = some (v == 0, [.fl d1, .fl (.list (P.map kd))]) := by
    generalize P.map kd = PD
    simp [e1]
  rw [s6_e]
  by_cases h : v = 0
  · obtain ⟨rs, d2, e2, hs2, hrl, hnd, hin⟩ := some_tie_spec (n := n) (m := m) hs1 hn hm
    have ha : a6 (G n m (some (.ptr 1)) x5 x6 x7 none none none none none none none none none none) [.fl d1, .fl (.list (P.map kd))] = some (.nx, G n m (some (.ptr 1)) x5 x6 x7 (some (.dat (.tuple (rs.map rowD)))) none none none none none none none none none, [.fl d2, .fl (.list (P.map kd))]) := by
      generalize P.map kd = PD
      generalize rs.map rowD = RD at *
      simp [e2]
    have hc := c6_e (n := n) (m := m) (d := d2) (x5 := x5) (x6 := x6) (x7 := x7) (P := P) (rs := rs) (by omega)
    refine ⟨1, some (.dat (.tuple (rs.map rowD))), d2, [.fl (.list (P.map kd)), .fl (.list ((P ++ (rs.filter fun t => !decide (prR t ∈ P)).map prR).map kd))], P ++ (rs.filter fun t => !decide (prR t ∈ P)).map prR, ?_, rfl, hs2, ?_, fun p hp => ?_⟩
    · rw [if_t2 ht (by simp [h]), seq_nx ha, sAsg_e]
      have hadd : oAdd (.list (P.map kd)) (.list (((rs.filter fun t => !decide (prR t ∈ P)).map prR).map kd)) = some (.new (.list ((P ++ (rs.filter fun t => !decide (prR t ∈ P)).map prR).map kd))) := by
        rw [oAdd_lst, List.map_append]
        have := List.length_filter_le (fun t => !decide (prR t ∈ P)) rs
        rw [List.length_map, List.length_map, List.length_map, lim_e]
        omega
      generalize c6 = fc at *
      generalize ((rs.filter fun t => !decide (prR t ∈ P)).map prR).map kd = X at *
      generalize (P ++ (rs.filter fun t => !decide (prR t ∈ P)).map prR).map kd = Y at *
      generalize P.map kd = PD at *
      generalize rs.map rowD = RD at *
      simp [hc, hadd]
    · have := List.length_filter_le (fun t => !decide (prR t ∈ P)) rs
      rw [List.length_append, List.length_map]
      omega
    · rcases List.mem_append.mp hp with hp | hp
      · exact hP p hp
      · obtain ⟨t, ht, rfl⟩ := List.mem_map.mp hp
        exact hin t (List.mem_filter.mp ht).1
  · refine ⟨0, none, d1, [.fl (.list (P.map kd))], P, ?_, rfl, hs1, by omega, hP⟩
    rw [if_f2 ht (by simp [h])]
    exact sNil_e
theorem st7 {p : Nat} {R : Sto} {P : List Pr} (hs : IsSt d) (hR : R[p]? = some (.fl (.list (P.map kd)))) (hl : P.length ≤ 1000) :
    ∃ (d' : D) (R' : Sto) (P' : List Pr), s7 (G n m (some (.ptr (p + 1))) x5 x6 x7 x8 none none none none none none none none none) (.fl d :: R) = some (.nx, G n m (some (.dat (psD P'))) x5 x6 x7 x8 none none none none none none none none none, .fl d' :: R') ∧ IsSt d' ∧ P'.Perm P := by
  obtain ⟨ys, d', e, hp, hs'⟩ := shuffled_spec (R := R) (xs := P.map kd) hs (by rw [List.length_map]; omega) (.inr ⟨p, rfl, hR⟩)
  obtain ⟨P', rfl, hp'⟩ := perm_kds hp
  refine ⟨d', R ++ [.fl (.list (P'.map kd))], P', ?_, hs', hp'⟩
  show _ = some (EL.Fl.nx, G n m (some (.dat (.tuple (P'.map kd)))) x5 x6 x7 x8 none none none none none none none none none, _)
  have hx : (Cell.fl d' :: (R ++ [.fl (.list (P'.map kd))]))[R.length + 1]? = some (.fl (.list (P'.map kd))) := by simp
  generalize P'.map kd = PD at *
  generalize hM : (Cell.fl d' :: (R ++ [.fl (.list PD)])) = MM at *
  simp [e, hx]
abbrev c8 : DE := dComp (iSeq (dCall g__law_subsets_of (dCons (dVar 2) dNil))) (cStep (gNm 16) (tTru (dCall g__law_is_few (dCons (dVar 2) (dCons (dVar 3) (dCons (dVar 4) (dCons (dVar 16) dNil)))))) [16] (dVar 16))
theorem tS_out {n : Nat} {S : List Int} (h : S ∈ subs n) : (tS S).plain = true ∧ ∀ ds, tS S = .tuple ds → ds.length ≤ n := by
  have h1 := subs_rng h
  have h2 := nodup_le (h1.2.imp fun h => by omega) h1.1
  refine ⟨?_, fun ds e => ?_⟩
  · rw [PyData.plain]
    exact plainAll_iff.mpr fun d hd => by
      obtain ⟨i, _, rfl⟩ := List.mem_map.mp hd
      simp [PyData.plain]
  · cases e
    rw [List.length_map]; exact h2
theorem c8_e {M : Sto} {P : List Pr} (hn : n ≤ 5) (hm : m ≤ 5) (hl : P.length ≤ 500) : c8 (G n m (some (.dat (psD P))) x5 x6 x7 x8 none none none none none none none none none) M = some (.dat (.list ((bars n m P).map tS)), M) := by
  have h1 := subsets_spec (n := n) (by omega)
  have hp : 2 ^ n ≤ 2 ^ 5 := Nat.pow_le_pow_right (by decide) hn
  have e := dComp_map (m := false) (fi := iSeq (dCall g__law_subsets_of (dCons (dVar 2) dNil))) (ds := (subs n).map tS) (tg := gNm 16) (own := [16]) (tt := tTru (dCall g__law_is_few (dCons (dVar 2) (dCons (dVar 3) (dCons (dVar 4) (dCons (dVar 16) dNil)))))) (te := dVar 16) (Γ := G n m (some (.dat (psD P))) x5 x6 x7 x8 none none none none none none none none none) (M0 := M) (M := M)
    (barB n m P) id (by
      generalize (subs n).map tS = SD at *
      simp [h1]) (by rw [List.length_map, subs_len, lim_e]; omega) fun z hd => by
      obtain ⟨S, hS, rfl⟩ := List.mem_map.mp hd
      have ho := tS_out hS
      have h2 := is_few_spec (n := n) (m := m) (P := P) ho.1 (fun ds e => by have := ho.2 ds e; omega) hl (by omega) (by omega)
      refine ⟨G n m (some (.dat (psD P))) x5 x6 x7 x8 none none none none none none none (some (.dat (tS S))) none, rfl, ?_, fun _ => ?_⟩
      · generalize psD P = PD at *
        generalize tS S = TS at *
        generalize barB n m P TS = bb at *
        simp [h2]
      · generalize tS S = TS at *
        simp
  refine e.trans ?_
  rw [finD_f, List.filter_map, List.map_id]
  unfold bars
  rw [List.filter_congr (p := barB n m P ∘ tS) (q := barI n m P) fun S hS => barB_tS hS]
theorem st8 {M : Sto} {P : List Pr} (hn : n ≤ 5) (hm : m ≤ 5) (hl : P.length ≤ 500) : s8 (G n m (some (.dat (psD P))) x5 x6 x7 x8 none none none none none none none none none) M = some (.nx, G n m (some (.dat (psD P))) x5 x6 x7 x8 (some (.dat (.list ((bars n m P).map tS)))) none none none none none none none none, M) := by
  have h := c8_e (n := n) (m := m) (x5 := x5) (x6 := x6) (x7 := x7) (x8 := x8) (M := M) hn hm hl
  show sAsg 9 c8 _ _ = _
  rw [sAsg_e, h]; rfl
theorem st9 {M : Sto} {P : List Pr} {x9 : Option SV} (hn : n ≤ 5) (hm : m ≤ 5) (hl : P.length < 64) (hP : ∀ p ∈ P, InP n m p) : ∃ z, s9 (G n m (some (.dat (psD P))) x5 x6 x7 x8 x9 none none none none none none none none) M = some (.nx, G n m (some (.dat (psD P))) x5 x6 x7 x8 x9 (some (.dat z)) none none none none none none none, M) ∧ TwOut n m P z := by
  obtain ⟨z, e, h⟩ := tie_within_spec (n := n) (m := m) (P := P) (by omega) (by omega) hl hP
  refine ⟨z, ?_, h⟩
  generalize psD P = PD at *
  simp [e]
end
end K02
namespace K02
open PySem PySem.Spec PyProof.Rows L2 EL

theorem oNe_same (x : Str) : oNe (.str x) (.str x) = some (.dat (.bool false)) := by
  rw [oNe_ss, decide_eq_true rfl]; rfl
theorem oEq_same (x : Str) : oEq (.str x) (.str x) = some (.dat (.bool true)) := by
  rw [oEq_ss, decide_eq_true rfl]
theorem bar_tie : oEq (.str "bar") (.str "tie") = some (.dat (.bool false)) := by
  rw [oEq_ss, decide_eq_false (by decide +kernel)]
theorem tS_plain (S : List Int) : (tS S).plain = true := by
  rw [PyData.plain]
  exact plainAll_iff.mpr fun d hd => by
    obtain ⟨i, _, rfl⟩ := List.mem_map.mp hd
    simp [PyData.plain]
theorem tSs_plain (L : List (List Int)) : PyData.plainAll (L.map tS) = true := plainAll_iff.mpr fun d hd => by
  obtain ⟨S, _, rfl⟩ := List.mem_map.mp hd
  exact tS_plain S
theorem ne_nil (L : List (List Int)) : oNe (.list (L.map tS)) (.list []) = some (.dat (.bool (!L.isEmpty))) := by
  unfold oNe
  have hd : min (PyData.depth (.list (L.map tS))) (PyData.depth (.list [])) ≤ 60 := Nat.le_trans (Nat.min_le_right _ _) (by simp [PyData.depth, PyData.depthAll])
  have ho : okEq (.list (L.map tS)) (.list []) = true := by
    unfold okEq
    rw [show (PyData.list (L.map tS)).plain = true by rw [PyData.plain]; exact tSs_plain L, decide_eq_true hd]
    simp [PyData.plain, PyData.plainAll]
  rw [if_pos ho]
  cases L <;> simp [PyData.eqv, PyData.eqvAll]
theorem eqvAll_same : ∀ S : List Int, PyData.eqvAll (S.map .int) (S.map .int) = true
  | [] => by simp [PyData.eqvAll]
  | i :: S => by
    rw [List.map_cons, PyData.eqvAll, eqvAll_same S]
    simp [PyData.eqv]
theorem notin_bars {S : List Int} {L : List (List Int)} (h : S ∈ L) (hd : (tS S).depth ≤ 60) : oNotIn (tS S) (.list (L.map tS)) = some (.dat (.bool false)) := by
  have ho : okIn (tS S) (L.map tS) = true := by
    unfold okIn
    rw [tS_plain, tSs_plain, decide_eq_true (Nat.le_trans (Nat.min_le_right _ _) hd)]; rfl
  have hi : inD (tS S) (L.map tS) = true := by
    unfold inD
    rw [List.any_eq_true]
    exact ⟨tS S, List.mem_map.mpr ⟨S, h, rfl⟩, by rw [PyData.eqv]; exact eqvAll_same S⟩
  unfold oNotIn
  show ((if okIn (tS S) (L.map tS) = true then some (inD (tS S) (L.map tS)) else none).map _) = _
  rw [if_pos ho, hi]; rfl
theorem depth_ints : ∀ S : List Int, PyData.depthAll (S.map .int) ≤ 2
  | [] => by simp [PyData.depthAll]
  | i :: S => by
    have := depth_ints S
    rw [List.map_cons, PyData.depthAll]
    simp [PyData.depth]
    omega
theorem depth_tS (S : List Int) : (tS S).depth ≤ 60 := by
  have := depth_ints S
  rw [PyData.depth]
  omega
section
variable {n m : Nat} {x4 x5 x6 x7 x8 : Option SV} {M : Sto}
theorem st10 {z y : D} {BL : List D} {b : Bool} (hb : oNe (.list BL) (.list []) = some (.dat (.bool b))) (hz : z = if b = true then .str "bar" else .str "tie") :
    s10 (G n m x4 x5 x6 x7 x8 (some (.dat (.list BL))) (some (.dat (.tuple [z, y]))) none none none none none none none) M = some (.nx, G n m x4 x5 x6 x7 x8 (some (.dat (.list BL))) (some (.dat (.tuple [z, y]))) none none none none none none none, M) := by
  have hi : ∀ p : D, oIsi "tuple" (.tuple [p, y]) = some (.dat (.bool true)) := fun p => by simp [oIsi, isi]
  have n1 := oNe_same "bar"
  have n2 := oNe_same "tie"
  have b0 : bInt [.bool false] = some (.dat (.int 0)) := rfl
  have b1 : bInt [.bool true] = some (.dat (.int 1)) := rfl
  have a0 : ∀ p q : D, atI [p, q] 0 = some p := fun _ _ => rfl
  have a1 : ∀ p q : D, atI [p, q] 1 = some q := fun _ _ => rfl
  unfold s10
  generalize PyData.str "bar" = zb at *
  generalize PyData.str "tie" = zt at *
  subst hz
  cases b with
  | true =>
    simp [hi, hb, n1, b1, a0, a1, lim_e, -atI_nn]
  | false =>
    simp [hi, hb, n2, b0, a0, a1, lim_e, -atI_nn]
theorem st11b {y : D} {BL : List D} (h : oNotIn y (.list BL) = some (.dat (.bool false))) :
    s11 (G n m x4 x5 x6 x7 x8 (some (.dat (.list BL))) (some (.dat (.tuple [.str "bar", y]))) none none none none none none none) M = some (.nx, G n m x4 x5 x6 x7 x8 (some (.dat (.list BL))) (some (.dat (.tuple [.str "bar", y]))) none none none none none none none, M) := by
  have a0 : ∀ p q : D, atI [p, q] 0 = some p := fun _ _ => rfl
  have a1 : ∀ p q : D, atI [p, q] 1 = some q := fun _ _ => rfl
  have n1 := bar_tie
  unfold s11
  generalize PyData.str "bar" = zb at *
  generalize PyData.str "tie" = zt at *
  rw [if_f2 (M1 := M) (b := false) (by simp [a0, n1, -atI_nn]) rfl, if_f2 (M1 := M) (b := false) (by simp [a1, h, -atI_nn]) rfl]
  exact sNil_e
theorem st11t {P : List Pr} {rs : List EL.Row} {B : D} (h : g__law_is_tie [.dat (.tuple (rs.map rowD)), .dat (.int n), .dat (.int m)] [] = some (.ok (.dat (.bool true)), [])) (hl : rs.length ≤ 5000) (hi : (rs.map fun t => decide (prR t ∈ P)).all id = true) :
    s11 (G n m (some (.dat (psD P))) x5 x6 x7 x8 (some (.dat B)) (some (.dat (.tuple [.str "tie", .tuple (rs.map rowD)]))) none none none none none none none) M = some (.nx, G n m (some (.dat (psD P))) x5 x6 x7 x8 (some (.dat B)) (some (.dat (.tuple [.str "tie", .tuple (rs.map rowD)]))) none none none none none none none, M) := by
  have a0 : ∀ p q : D, atI [p, q] 0 = some p := fun _ _ => rfl
  have a1 : ∀ p q : D, atI [p, q] 1 = some q := fun _ _ => rfl
  have n1 := oEq_same "tie"
  unfold s11
  generalize PyData.str "tie" = zt at *
  have hc := rows_comp (k := 15) (q := 4) (fi := iSeq (dIx (dVar 10) (dC (.int 1)))) (Γ := G n m (some (.dat (psD P))) x5 x6 x7 x8 (some (.dat B)) (some (.dat (.tuple [zt, .tuple (rs.map rowD)]))) none none none none none none none) (M := M) (P := P) (rs := rs) (by
    have h1 : sqw (.dat (.tuple (rs.map rowD)), M) = some ((itD (rs.map rowD), (rs.map rowD).length), M) := rfl
    generalize PyData.tuple (rs.map rowD) = RT at *
    have : iSeq (dIx (dVar 10) (dC (.int 1))) (G n m (some (.dat (psD P))) x5 x6 x7 x8 (some (.dat B)) (some (.dat (.tuple [zt, RT]))) none none none none none none none) M = sqw (.dat RT, M) := by
      simp [a1, -atI_nn]
    rw [this, h1]) hl (fun t => rfl) (fun t => rfl)
  rw [if_t2 (M1 := M) (b := true) (by simp [a0, n1, -atI_nn]) rfl]
  generalize PyData.tuple (rs.map rowD) = RT at *
  generalize psD P = PD at *
  generalize (rs.map fun t => decide (prR t ∈ P)) = bs at *
  rw [if_f2 (M1 := M) (b := false) ?_ rfl]
  · exact sNil_e
  · have e1 : tTru (dCall g__law_is_tie (dCons (dIx (dVar 10) (dC (.int 1))) (dCons (dVar 2) (dCons (dVar 3) dNil)))) (G n m (some (.dat PD)) x5 x6 x7 x8 (some (.dat B)) (some (.dat (.tuple [zt, RT]))) none none none none none none none) M = some (true, M) := by
      simp [a1, h, -atI_nn]
    have e2 : tTru (dCB bAll (dCons (dComp (iSeq (dIx (dVar 10) (dC (.int 1)))) (cStep (gNm 15) tYes_ [15] (dBin oIn (dSl (dVar 15) oN (oS (dC (.int 2)))) (dVar 4)))) dNil)) (G n m (some (.dat PD)) x5 x6 x7 x8 (some (.dat B)) (some (.dat (.tuple [zt, RT]))) none none none none none none none) M = some (true, M) := by
      rw [tTru_e, dCB_e, dCons_e, hc]
      simp [hi]
    rw [tOr_e, tNot_e, e1]
    simp only [Option.bind_some, Bool.not_true, Bool.false_eq_true, if_false]
    rw [tNot_e, e2]; rfl
end
end K02
namespace K02
open PySem PySem.Spec PyProof.Rows L2 EL

section
variable {n m : Nat} {x4 x5 x6 x7 x8 x9 x12 x13 x14 : Option SV} {d : D} {R : Sto} {M : Sto}
abbrev c12 : DE := dCB bTuple (dCons (dComp (iRng (dCons (dVar 2) dNil)) (cStep (gNm 17) tYes_ [17] (dVar 17))) dNil)
theorem c12_e {x10 : Option SV} (hn : n ≤ 5) : c12 (G n m x4 x5 x6 x7 x8 x9 x10 none none none none none none none) M = some (.dat (.tuple (rngD 0 n)), M) := by
  have e := dComp_xs (m := false) (tg := gNm 17) (own := [17]) (te := dVar 17) (fi := iRng (dCons (dVar 2) dNil)) (Γ := G n m x4 x5 x6 x7 x8 x9 x10 none none none none none none none) (M0 := M) (M := M) (rngD 0 n) id id (by
    rw [rng_n (i := 2) (k := n) rfl (by omega), List.map_id]) (by rw [rngD_length, lim_e]; omega) fun z _ => ⟨G n m x4 x5 x6 x7 x8 x9 x10 none none none none none none (some (.dat z)), rfl, by simp⟩
  rw [finD_f, List.map_id] at e
  unfold c12
  rw [dCB_e, dCons_e, e]
  simp
theorem rngD_plain {k : Nat} : ∀ d ∈ rngD 0 k, d.plain = true := fun d hd => by
  unfold rngD at hd
  obtain ⟨i, _, rfl⟩ := List.mem_map.mp hd
  simp [PyData.plain]
abbrev d12 : DE := dCall g__law_some_tie (dCons (dVar 1) (dCons (dVar 2) (dCons (dVar 3) dNil)))
theorem d12_e {x10 : Option SV} (hs : IsSt d) (hn : n ≤ 5) (hm : m ≤ 5) : ∃ (d' : D) (rs : List EL.Row), d12 (G n m x4 x5 x6 x7 x8 x9 x10 none none none none none none none) (.fl d :: R) = some (.dat (.tuple (rs.map rowD)), .fl d' :: R) ∧ IsSt d' ∧ rs.length ≤ 25 := by
  obtain ⟨rs, d', e, hs', hl, _, _⟩ := some_tie_spec (n := n) (m := m) hs hn hm
  refine ⟨d', rs, ?_, hs', hl⟩
  generalize rs.map rowD = RD at *
  simp [e]
theorem s12_e : s12 = sAsg 11 (dLstP (dCons (dIx (dVar 10) (dC (.int 1))) (dCons (dTup dNil) (dCons (dTup (dCons (dC (.int 0)) dNil)) (dCons (dC (.int 7)) (dCons c12 (dCons d12 dNil))))))) := rfl
theorem st12 {z y : D} (hs : IsSt d) (hn : n ≤ 5) (hm : m ≤ 5) (hy : OutB 5000 y) : ∃ d' ds, s12 (G n m x4 x5 x6 x7 x8 x9 (some (.dat (.tuple [z, y]))) none none none none none none none) (.fl d :: R) = some (.nx, G n m x4 x5 x6 x7 x8 x9 (some (.dat (.tuple [z, y]))) (some (.ptr (R.length + 1))) none none none none none none, .fl d' :: (R ++ [.fl (.list ds)])) ∧ IsSt d' ∧ ds.length = 6 ∧ ∀ x ∈ ds, OutB 5000 x := by
  obtain ⟨d', rs, e, hs', hl⟩ := d12_e (n := n) (m := m) (d := d) (R := R) (x4 := x4) (x5 := x5) (x6 := x6) (x7 := x7) (x8 := x8) (x9 := x9) (x10 := some (.dat (.tuple [z, y]))) hs hn hm
  have hc := c12_e (n := n) (m := m) (x4 := x4) (x5 := x5) (x6 := x6) (x7 := x7) (x8 := x8) (x9 := x9) (x10 := some (.dat (.tuple [z, y]))) (M := .fl d :: R) hn
  have a1 : ∀ p q : D, atI [p, q] 1 = some q := fun _ _ => rfl
  have hA : (dCons (dIx (dVar 10) (dC (.int 1))) (dCons (dTup dNil) (dCons (dTup (dCons (dC (.int 0)) dNil)) (dCons (dC (.int 7)) (dCons c12 (dCons d12 dNil)))))) (G n m x4 x5 x6 x7 x8 x9 (some (.dat (.tuple [z, y]))) none none none none none none none) (.fl d :: R) = some ([.dat y, .dat (.tuple []), .dat (.tuple [.int 0]), .dat (.int 7), .dat (.tuple (rngD 0 n)), .dat (.tuple (rs.map rowD))], .fl d' :: R) := by
    generalize c12 = fc at *
    generalize d12 = fd at *
    generalize rs.map rowD = RD at *
    generalize rngD 0 n = RN at *
    simp [a1, hc, e, lim_e, -atI_nn]
  have hcell : lstCell [.dat y, .dat (.tuple []), .dat (.tuple [.int 0]), .dat (.int 7), .dat (.tuple (rngD 0 n)), .dat (.tuple (rs.map rowD))] = .fl (.list [y, .tuple [], .tuple [.int 0], .int 7, .tuple (rngD 0 n), .tuple (rs.map rowD)]) := rfl
  refine ⟨d', [y, .tuple [], .tuple [.int 0], .int 7, .tuple (rngD 0 n), .tuple (rs.map rowD)], ?_, hs', rfl, fun x hx => ?_⟩
  · rw [s12_e, sAsg_e, dLstP_e, hA, Option.bind_some, lspk_e, hcell, if_pos (by rw [lim_e]; exact Nat.le_of_ble_eq_true rfl)]
    rfl
  · simp only [List.mem_cons, List.not_mem_nil, or_false] at hx
    rcases hx with rfl | rfl | rfl | rfl | rfl | rfl
    · exact hy
    · exact outB_tup (fun d h => (nomatch h)) (by simp)
    · exact outB_tup (fun d h => by rw [List.mem_singleton.mp h]; simp [PyData.plain]) (by simp)
    · exact ⟨by simp [PyData.plain], fun _ e => (nomatch e)⟩
    · exact outB_tup rngD_plain (by rw [rngD_length]; omega)
    · exact outB_tup (rows_plain rs) (by rw [List.length_map]; omega)
theorem app_step {fe : DE} {Γ : Ga} {d' x : D} {ds : List D} (hΓ : Γ[11]? = some (some (.ptr (R.length + 1)))) (h : fe Γ (.fl d :: (R ++ [.fl (.list ds)])) = some (.dat x, .fl d' :: (R ++ [.fl (.list ds)]))) (hl : ds.length < 1000) :
    sExpr (dMethW "list" cAppend (dVar 11) (dCons fe dNil)) Γ (.fl d :: (R ++ [.fl (.list ds)])) = some (.nx, Γ, .fl d' :: (R ++ [.fl (.list (ds ++ [x]))])) := by
  have g1 : (Cell.fl d :: (R ++ [.fl (.list ds)]))[R.length + 1]? = some (.fl (.list ds)) := by simp
  have g2 : (Cell.fl d' :: (R ++ [.fl (.list ds)]))[R.length + 1]? = some (.fl (.list ds)) := by simp
  have g3 : (Cell.fl d' :: (R ++ [.fl (.list ds)])).set (R.length + 1) (.fl (.list (ds ++ [x]))) = .fl d' :: (R ++ [.fl (.list (ds ++ [x]))]) := by
    rw [List.set_cons_succ, List.set_append_right _ _ (Nat.le_refl _), Nat.sub_self]; rfl
  have hin : cAppend (.fl (.list ds)) [.dat x] = some (.fl (.list (ds ++ [x])), .dat .none) := cAppend_e (by rw [lim_e]; omega)
  generalize ds ++ [x] = Z at *
  generalize hM : (Cell.fl d :: (R ++ [.fl (.list ds)])) = MM at *
  generalize hM2 : (Cell.fl d' :: (R ++ [.fl (.list ds)])) = MM2 at *
  simp [hΓ, g1, h, g2, hin, g3]
abbrev f13 : DE := dCall g__law_bent (dCons (dVar 1) (dCons (dIx (dVar 10) (dC (.int 1))) (dCons (dC (.int 0)) dNil)))
abbrev k13 : DE := dCall g__law_one_of (dCons (dVar 1) (dCons (dCall g__law_subsets_of (dCons (dVar 2) dNil)) dNil))
theorem s13_e : s13 = sFor (iRng (dCons (dC (.int 8)) dNil)) (gNm 12) (sSeq (sExpr (dMethW "list" cAppend (dVar 11) (dCons f13 dNil))) (sExpr (dMethW "list" cAppend (dVar 11) (dCons k13 dNil)))) := rfl
abbrev G13 (n m : Nat) (x4 x5 x6 x7 x8 x9 : Option SV) (z y : D) (q : Nat) (x12 : Option SV) : Ga := G n m x4 x5 x6 x7 x8 x9 (some (.dat (.tuple [z, y]))) (some (.ptr q)) x12 none none none none none
theorem f13_e {z y : D} {q : Nat} (hs : IsSt d) (hy : itB y = true) : ∃ r d', f13 (G13 n m x4 x5 x6 x7 x8 x9 z y q x12) (.fl d :: R) = some (.dat r, .fl d' :: R) ∧ IsSt d' ∧ OutB 1001 r := by
  obtain ⟨r, d', e, hs', hr⟩ := bent_spec 30 (d := y) (st := d) (by omega) hy hs
  have a1 : ∀ p q : D, atI [p, q] 1 = some q := fun _ _ => rfl
  have e : g__law_bent [.ptr 0, .dat y, .dat (.int 0)] [.fl d] = some (.ok (.dat r), [.fl d']) := e
  refine ⟨r, d', ?_, hs', hr⟩
  unfold f13
  generalize g__law_bent = gb at *
  simp [a1, e, -atI_nn]
theorem k13_e {z y : D} {q : Nat} (hs : IsSt d) (hn : n ≤ 5) : ∃ r d', k13 (G13 n m x4 x5 x6 x7 x8 x9 z y q x12) (.fl d :: R) = some (.dat r, .fl d' :: R) ∧ IsSt d' ∧ OutB 1001 r := by
  have h1 := subsets_spec (n := n) (by omega)
  have hp : 2 ^ n ≤ 2 ^ 5 := Nat.pow_le_pow_right (by decide) hn
  have hlen : ((subs n).map tS).length ≤ 32 := by rw [List.length_map, subs_len]; omega
  have hne : (subs n).map tS ≠ [] := fun e => by
    have := congrArg List.length e
    rw [List.length_map, subs_len] at this
    have h2 : 0 < 2 ^ n := Nat.pow_pos (by decide)
    rw [this] at h2
    exact absurd h2 (by simp)
  obtain ⟨r, d', e, hr, hs'⟩ := k_one (xs := (subs n).map tS) hs hne (by omega)
  refine ⟨r, d', ?_, hs', ?_⟩
  · generalize (subs n).map tS = SD at *
    simp [h1, e]
  · obtain ⟨S, hS, rfl⟩ := List.mem_map.mp hr
    have ho := tS_out hS
    exact ⟨ho.1, fun ds e => by have := ho.2 ds e; omega⟩
theorem rng8 {Γ : Ga} {M : Sto} : iRng (dCons (dC (.int 8)) dNil) Γ M = some ((itD (rngD 0 8), (rngD 0 8).length), M) := by
  rw [iRng_e]
  show rgw ([.dat (.int 8)], M) = _
  rw [rgw_1 (by decide) (by decide)]; rfl
theorem OutB.mono {a b : Nat} {d : D} (h : OutB a d) (hab : a ≤ b) : OutB b d := ⟨h.1, fun ds e => Nat.le_trans (h.2 ds e) hab⟩
theorem st13 {z y : D} {ds : List D} (hs : IsSt d) (hn : n ≤ 5) (hy : itB y = true) (hd : ∀ x ∈ ds, OutB 5000 x) (hl : ds.length = 6) :
    ∃ x12 d' ds', s13 (G13 n m x4 x5 x6 x7 x8 x9 z y (R.length + 1) none) (.fl d :: (R ++ [.fl (.list ds)])) = some (.nx, G13 n m x4 x5 x6 x7 x8 x9 z y (R.length + 1) x12, .fl d' :: (R ++ [.fl (.list ds')])) ∧ ∀ x ∈ ds', OutB 5000 x := by
  obtain ⟨Γ', M', e, ⟨x12, hΓ⟩, d', ds', hM, _, hds, _⟩ := sFor_all (fi := iRng (dCons (dC (.int 8)) dNil)) (Γ := G13 n m x4 x5 x6 x7 x8 x9 z y (R.length + 1) none) (M := .fl d :: (R ++ [.fl (.list ds)])) (M1 := .fl d :: (R ++ [.fl (.list ds)])) (ds := rngD 0 8) rng8 (tg := gNm 12) (body := sSeq (sExpr (dMethW "list" cAppend (dVar 11) (dCons f13 dNil))) (sExpr (dMethW "list" cAppend (dVar 11) (dCons k13 dNil))))
    (fun i Γ M => (∃ x12, Γ = G13 n m x4 x5 x6 x7 x8 x9 z y (R.length + 1) x12) ∧ ∃ (d' : D) (ds' : List D), M = .fl d' :: (R ++ [.fl (.list ds')]) ∧ IsSt d' ∧ (∀ x ∈ ds', OutB 5000 x) ∧ ds'.length = 6 + 2 * i)
    ⟨⟨none, rfl⟩, d, ds, rfl, hs, hd, hl⟩ fun i w Γ M hi ⟨⟨x12, hΓ⟩, d', ds', hM, hs', hd', hl'⟩ => by
      subst hΓ hM
      have hi := (List.getElem?_eq_some_iff.mp hi).1
      rw [rngD_length] at hi
      obtain ⟨r1, d1, e1, hs1, hr1⟩ := f13_e (n := n) (m := m) (R := R ++ [.fl (.list ds')]) (x4 := x4) (x5 := x5) (x6 := x6) (x7 := x7) (x8 := x8) (x9 := x9) (x12 := some (.dat w)) (z := z) (y := y) (q := R.length + 1) hs' hy
      obtain ⟨r2, d2, e2, hs2, hr2⟩ := k13_e (n := n) (m := m) (R := R ++ [.fl (.list (ds' ++ [r1]))]) (x4 := x4) (x5 := x5) (x6 := x6) (x7 := x7) (x8 := x8) (x9 := x9) (x12 := some (.dat w)) (z := z) (y := y) (q := R.length + 1) hs1 hn
      refine ⟨_, _, _, rfl, (seq_nx (app_step rfl e1 (by omega))).trans (app_step rfl e2 (by rw [List.length_append, List.length_singleton]; omega)), ⟨_, rfl⟩, d2, ds' ++ [r1] ++ [r2], rfl, hs2, fun x hx => ?_, by simp; omega⟩
      rcases List.mem_append.mp hx with hx | hx
      · rcases List.mem_append.mp hx with hx | hx
        · exact hd' x hx
        · rw [List.mem_singleton.mp hx]; exact hr1.mono (by omega)
      · rw [List.mem_singleton.mp hx]; exact hr2.mono (by omega)
  subst hΓ hM
  exact ⟨x12, d', ds', by rw [s13_e]; exact e, hds⟩
end
end K02
namespace K02
open PySem PySem.Spec PyProof.Rows L2 EL

abbrev t14 : DT := tTru (dCall g__law_says (dCons (dCall g_shows_bar (dCons (dVar 2) (dCons (dVar 3) (dCons (dVar 4) (dCons (dVar 13) dNil))))) (dCons (dCall g__law_is_few (dCons (dVar 2) (dCons (dVar 3) (dCons (dVar 4) (dCons (dVar 13) dNil))))) dNil)))
abbrev a14 : DE := dAnd (dCall g__law_is_tie (dCons (dVar 13) (dCons (dVar 2) (dCons (dVar 3) dNil)))) (dCB bAll (dCons (dComp (iSeq (dVar 13)) (cStep (gNm 15) tYes_ [15] (dBin oIn (dSl (dVar 15) oN (oS (dC (.int 2)))) (dVar 4)))) dNil))
abbrev u14 : DT := tTru (dCall g__law_says (dCons (dCall g_shows_tie_within (dCons (dVar 2) (dCons (dVar 3) (dCons (dVar 4) (dCons (dVar 13) dNil))))) (dCons (dVar 14) dNil)))
abbrev b14 : DS := sSeq (sIf (tNot_ t14) (sRet (dC (.bool false))) sNil) (sSeq (sAsg 14 a14) (sIf (tNot_ u14) (sRet (dC (.bool false))) sNil))
theorem s14_e : s14 = sFor (iSeq (dVar 11)) (gNm 13) b14 := rfl
abbrev G14 (n m : Nat) (P : List Pr) (x5 x6 x7 x8 x9 x10 : Option SV) (q : Nat) (x12 x13 x14 : Option SV) : Ga := G n m (some (.dat (psD P))) x5 x6 x7 x8 x9 x10 (some (.ptr q)) x12 x13 x14 none none none
section
variable {n m q : Nat} {P : List Pr} {x5 x6 x7 x8 x9 x10 x12 x13 x14 : Option SV} {M : Sto} {z : D}
theorem says_b (b : Bool) : g__law_says [.dat (.bool b), .dat (.bool b)] [] = some (.ok (.dat (.bool true)), []) := by
  rw [says_spec]
  simp
theorem t14_e (hn : n ≤ 5) (hm : m ≤ 5) (hP : P.length ≤ 500) (hz : OutB 5000 z) : t14 (G14 n m P x5 x6 x7 x8 x9 x10 q x12 (some (.dat z)) x14) M = some (true, M) := by
  have e1 := shows_bar_spec (n := n) (m := m) (P := P) hz.1 hz.2 hP (by omega) (by omega)
  have e2 := is_few_spec (n := n) (m := m) (P := P) hz.1 hz.2 hP (by omega) (by omega)
  have e3 := says_b (barB n m P z)
  generalize barB n m P z = b at *
  generalize hpd : psD P = PD at *
  simp [e1, e2, e3, hpd]
theorem u14_e (hn0 : 0 < n) (hn : n ≤ 5) (hm0 : 0 < m) (hm : m ≤ 5) (hz : OutB 5000 z) : u14 (G14 n m P x5 x6 x7 x8 x9 x10 q x12 (some (.dat z)) (some (.dat (.bool (twB n m P z))))) M = some (true, M) := by
  have e1 := shows_tie_spec (n := n) (m := m) (P := P) hz.1 hz.2 hn0 (by omega) hm0 (by omega)
  have e3 := says_b (twB n m P z)
  generalize twB n m P z = b at *
  generalize hpd : psD P = PD at *
  simp [e1, e3, hpd]
theorem a14_e (hn0 : 0 < n) (hn : n ≤ 5) (hm0 : 0 < m) (hm : m ≤ 5) (hz : OutB 5000 z) : a14 (G14 n m P x5 x6 x7 x8 x9 x10 q x12 (some (.dat z)) x14) M = some (.dat (.bool (twB n m P z)), M) := by
  have e := both_tie (m := n) (o := m) hz.1 hz.2 hn0 (by omega) hm0 (by omega)
  have e1 : (dCall g__law_is_tie (dCons (dVar 13) (dCons (dVar 2) (dCons (dVar 3) dNil)))) (G14 n m P x5 x6 x7 x8 x9 x10 q x12 (some (.dat z)) x14) M = some (.dat (.bool (tieB n m z)), M) := by
    generalize tieB n m z = b at *
    simp [e]
  unfold a14 twB
  rw [dAnd_e, e1, Option.bind_some, andk_e]
  cases ht : tieB n m z with
  | false => rw [if_neg Bool.false_ne_true, Bool.false_and]
  | true =>
    rw [if_pos rfl]
    obtain ⟨rs, rfl, _, _⟩ := tie_rows ht
    have hl := hz.2 _ rfl
    rw [List.length_map] at hl
    have hc := rows_comp (k := 15) (q := 4) (fi := iSeq (dVar 13)) (Γ := G14 n m P x5 x6 x7 x8 x9 x10 q x12 (some (.dat (.tuple (rs.map rowD)))) x14) (M := M) (P := P) (rs := rs) rfl hl (fun t => rfl) (fun t => rfl)
    rw [dCB_e, dCons_e, hc, inPB_rows]
    generalize (rs.map fun t => decide (prR t ∈ P)) = bs
    simp
theorem b14_e (hn0 : 0 < n) (hn : n ≤ 5) (hm0 : 0 < m) (hm : m ≤ 5) (hP : P.length ≤ 500) (hz : OutB 5000 z) : ∃ x, b14 (G14 n m P x5 x6 x7 x8 x9 x10 q x12 (some (.dat z)) x14) M = some (.nx, G14 n m P x5 x6 x7 x8 x9 x10 q x12 (some (.dat z)) x, M) := by
  refine ⟨some (.dat (.bool (twB n m P z))), ?_⟩
  have h1 : tNot_ t14 (G14 n m P x5 x6 x7 x8 x9 x10 q x12 (some (.dat z)) x14) M = some (false, M) := by
    rw [tNot_e, t14_e hn hm hP hz]; rfl
  have h2 : tNot_ u14 (G14 n m P x5 x6 x7 x8 x9 x10 q x12 (some (.dat z)) (some (.dat (.bool (twB n m P z))))) M = some (false, M) := by
    rw [tNot_e, u14_e hn0 hn hm0 hm hz]; rfl
  have h3 : sAsg 14 a14 (G14 n m P x5 x6 x7 x8 x9 x10 q x12 (some (.dat z)) x14) M = some (.nx, G14 n m P x5 x6 x7 x8 x9 x10 q x12 (some (.dat z)) (some (.dat (.bool (twB n m P z)))), M) := by
    rw [sAsg_e, a14_e hn0 hn hm0 hm hz]; rfl
  unfold b14
  rw [seq_nx ((if_f h1).trans sNil_e), seq_nx h3, if_f h2]
  exact sNil_e
theorem st14 {ds : List D} (hn0 : 0 < n) (hn : n ≤ 5) (hm0 : 0 < m) (hm : m ≤ 5) (hP : P.length ≤ 500) (hM : M[q]? = some (.fl (.list ds))) (hd : ∀ x ∈ ds, OutB 5000 x) : ∃ y13 y14, s14 (G14 n m P x5 x6 x7 x8 x9 x10 q x12 none none) M = some (.nx, G14 n m P x5 x6 x7 x8 x9 x10 q x12 y13 y14, M) := by
  obtain ⟨r, e, h | ⟨Γ', M', rfl, ⟨y13, y14, rfl⟩, rfl⟩⟩ := sFor_indP (fi := iSeq (dVar 11)) (it := itP q) (tg := gNm 13) (body := b14) (Γ := G14 n m P x5 x6 x7 x8 x9 x10 q x12 none none) (M := M) (M1 := M) (ds := ds) (by
    rw [iSeq_e]
    show sqw (.ptr q, _) = _
    exact sqw_ptr hM) (fun i Γ M' => (∃ y13 y14, Γ = G14 n m P x5 x6 x7 x8 x9 x10 q x12 y13 y14) ∧ M' = M) (fun _ => False) (fun i Γ M' ⟨_, h⟩ => by
      subst h
      exact itP_at hM) ⟨⟨none, none, rfl⟩, rfl⟩ fun i z Γ M' hz ⟨⟨y13, y14, hΓ⟩, h⟩ => by
      subst hΓ h
      obtain ⟨x, e⟩ := b14_e (n := n) (m := m) (q := q) (P := P) (x5 := x5) (x6 := x6) (x7 := x7) (x8 := x8) (x9 := x9) (x10 := x10) (x12 := x12) (x14 := y14) (M := M') hn0 hn hm0 hm hP (hd z (List.mem_of_getElem? hz))
      exact ⟨_, _, rfl, e, ⟨_, _, rfl⟩, rfl⟩
  · exact h.elim
  · exact ⟨y13, y14, by rw [s14_e]; exact e⟩
end
theorem rows_itB {rs : List EL.Row} (h : rs.length ≤ 1000) : itB (.tuple (rs.map rowD)) = true := by
  have : ∀ rs : List EL.Row, itBs (rs.map rowD) = true := fun rs => by
    induction rs with
    | nil => rfl
    | cons t r ih => rw [List.map_cons, itBs, ih]; simp [rowD, itB, itBs]
  rw [itB, this, decide_eq_true (by rw [List.length_map]; omega)]; rfl
theorem tS_itB {S : List Int} (h : S.length ≤ 1000) : itB (tS S) = true := by
  have : ∀ S : List Int, itBs (S.map .int) = true := fun S => by
    induction S with
    | nil => rfl
    | cons t r ih => rw [List.map_cons, itBs, ih]; simp [itB]
  rw [itB, this, decide_eq_true (by rw [List.length_map]; omega)]; rfl
/-- the steps 10 and 11 -/
theorem st1011 {n m : Nat} {P : List Pr} {z : D} {x5 x6 x7 x8 : Option SV} {M : Sto} (hn0 : 0 < n) (hn : n ≤ 5) (hm0 : 0 < m) (hm : m ≤ 5) (hP : ∀ p ∈ P, InP n m p) (hz : TwOut n m P z) :
    ∃ a y, z = .tuple [a, y] ∧ OutB 5000 y ∧ itB y = true ∧
      s10 (G n m (some (.dat (psD P))) x5 x6 x7 x8 (some (.dat (.list ((bars n m P).map tS)))) (some (.dat z)) none none none none none none none) M = some (.nx, G n m (some (.dat (psD P))) x5 x6 x7 x8 (some (.dat (.list ((bars n m P).map tS)))) (some (.dat z)) none none none none none none none, M) ∧
      s11 (G n m (some (.dat (psD P))) x5 x6 x7 x8 (some (.dat (.list ((bars n m P).map tS)))) (some (.dat z)) none none none none none none none) M = some (.nx, G n m (some (.dat (psD P))) x5 x6 x7 x8 (some (.dat (.list ((bars n m P).map tS)))) (some (.dat z)) none none none none none none none, M) := by
  have hS : ∀ p ∈ P, SmallP p := fun p hp => by
    have := hP p hp
    unfold SmallP
    unfold InP at this
    omega
  rcases hz with ⟨t, lf, rt, S, F, hw, hne, rfl⟩ | ⟨t, lf, rt, F, h0, rfl⟩
  · have hb := bar_in hS F hw hne
    have hlen := nodup_le hw.1 hw.2.2.1
    refine ⟨_, tS S, rfl, outB_tup (fun d hd => by
      obtain ⟨i, _, rfl⟩ := List.mem_map.mp hd
      simp [PyData.plain]) (by rw [List.length_map]; omega), tS_itB (by omega), ?_, ?_⟩
    · refine st10 (b := true) ?_ rfl
      rw [ne_nil]
      cases hB : bars n m P with
      | nil => rw [hB] at hb; cases hb
      | cons _ _ => rfl
    · exact st11b (notin_bars hb (depth_tS S))
  · have ht := tie_rowsT hS hn0 hm0 F h0
    have hl := ht.len
    have hp : ∀ d ∈ (rowsT (canon P) t).map rowD, d.plain = true := rows_plain _
    refine ⟨_, _, rfl, outB_tup hp (by rw [List.length_map]; omega), rows_itB (by omega), ?_, ?_⟩
    · refine st10 (b := false) ?_ rfl
      rw [ne_nil, tie_none hS F h0]; rfl
    · refine st11t ?_ (by omega) ?_
      · have e := both_tie (m := n) (o := m) (d := .tuple ((rowsT (canon P) t).map rowD)) (by rw [PyData.plain]; exact plainAll_iff.mpr hp) (fun ds e => by cases e; rw [List.length_map]; omega) hn0 (by omega) hm0 (by omega)
        rw [e, tie_true ht]
      · rw [← inPB_rows]
        exact inPB_rowsT hS
theorem law_true (ns : List Int) : ∃ Γ' M', b_law (none :: some (.ptr 0) :: List.replicate (18 - 2) none) [.fl (state0 ns)] = some (.rt (.dat (.bool true)), Γ', M') := by
  obtain ⟨n, d1, e1, hs1, hn0, hn⟩ := st1 (isSt0 ns)
  obtain ⟨m, d2, e2, hs2, hm0, hm⟩ := st2 (n := n) hs1
  obtain ⟨w, d4, e4, hs4⟩ := st4 (n := n) (m := m) hs2
  obtain ⟨x6, x7, d5, P5, e5, hs5, hl5, hP5⟩ := st5 (n := n) (m := m) (w := w) hs4 hn hm
  obtain ⟨p, x8, d6, R6, P6, e6, hR6, hs6, hl6, hP6⟩ := st6 (n := n) (m := m) (x5 := some (.dat (.int w))) (x6 := x6) (x7 := x7) hs5 hn hm hl5 hP5
  obtain ⟨d7, R7, P, e7, hs7, hp7⟩ := st7 (n := n) (m := m) (x5 := some (.dat (.int w))) (x6 := x6) (x7 := x7) (x8 := x8) hs6 hR6 (by omega)
  have hPl : P.length ≤ 50 := by rw [hp7.length_eq]; exact hl6
  have hP : ∀ p ∈ P, InP n m p := fun p hp => hP6 p (hp7.mem_iff.mp hp)
  have e8 := st8 (n := n) (m := m) (P := P) (x5 := some (.dat (.int w))) (x6 := x6) (x7 := x7) (x8 := x8) (M := .fl d7 :: R7) hn hm (by omega)
  obtain ⟨z, e9, hz⟩ := st9 (n := n) (m := m) (P := P) (x5 := some (.dat (.int w))) (x6 := x6) (x7 := x7) (x8 := x8) (x9 := some (.dat (.list ((bars n m P).map tS)))) (M := .fl d7 :: R7) hn hm (by omega) hP
  obtain ⟨a, y, rfl, hy, hyi, e10, e11⟩ := st1011 (x5 := some (.dat (.int w))) (x6 := x6) (x7 := x7) (x8 := x8) (M := .fl d7 :: R7) hn0 hn hm0 hm hP hz
  obtain ⟨d12, ds, e12, hs12, hds, hdo⟩ := st12 (n := n) (m := m) (x4 := some (.dat (psD P))) (x5 := some (.dat (.int w))) (x6 := x6) (x7 := x7) (x8 := x8) (x9 := some (.dat (.list ((bars n m P).map tS)))) (R := R7) (z := a) hs7 hn hm hy
  obtain ⟨x12, d13, ds', e13, hdo'⟩ := st13 (n := n) (m := m) (x4 := some (.dat (psD P))) (x5 := some (.dat (.int w))) (x6 := x6) (x7 := x7) (x8 := x8) (x9 := some (.dat (.list ((bars n m P).map tS)))) (R := R7) (z := a) hs12 hn hyi hdo hds
  obtain ⟨y13, y14, e14⟩ := st14 (n := n) (m := m) (q := R7.length + 1) (P := P) (x5 := some (.dat (.int w))) (x6 := x6) (x7 := x7) (x8 := x8) (x9 := some (.dat (.list ((bars n m P).map tS)))) (x10 := some (.dat (.tuple [a, y]))) (x12 := x12) (M := .fl d13 :: (R7 ++ [.fl (.list ds')])) hn0 hn hm0 hm (by omega) (by simp) hdo'
  rw [b_law_eq]
  refine ⟨G14 n m P (some (.dat (.int w))) x6 x7 x8 (some (.dat (.list ((bars n m P).map tS)))) (some (.dat (.tuple [a, y]))) (R7.length + 1) x12 y13 y14, .fl d13 :: (R7 ++ [.fl (.list ds')]), ?_⟩
  show (sSeq _ _) G0 _ = _
  rw [seq_nx e1, seq_nx e2, seq_nx st3, seq_nx e4, seq_nx e5, seq_nx e6, seq_nx e7, seq_nx e8, seq_nx e9, seq_nx e10, seq_nx e11, seq_nx e12, seq_nx e13, seq_nx e14]
  rfl
end K02

theorem PySem.Challenge.cw_drawnalike_k02_whole_flows_and_bars_holds : PySem.Challenge.rw_drawnalike_k02_whole_flows_and_bars.Holds := by
  exact K02.holds_of fun ns hl => K02.law_true ns
