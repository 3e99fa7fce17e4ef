import PyProof.Rows.All
import Wide.All
import OpenK.AllK
import Wide.FinOn
import HandS.ForMost
import HandS.Evl
import HandS.Walk
import HandS.DictTup
import HandS.TupLen
import HandS.IsInst
import KE.KDictKeyed
import KE.KDictWalk
import KE.KDictLaw
import HandS.DictComp
import HandS.ListEq
import KE.KDictSum
import KE.SortData
import HandS.Deep
import HandS.Conv
import HandS.TupAny
import HandS.Rev
import HandS.Zip
import KE.DataMinMax
import KE.SortUse
import KE.KDictCopyH
import KE.KEqDict
import KE.KDictZip
import KE.KDictList
import HandS.Defaults
import HandS.Words
import PySem.Challenge.RW_lookdown_k18_whole_alone_prices_and_own
import KE.GoesMore
import HandS.Iter
import KE.DatumOrd
import HandS.TupSets
import HandS.More
import HandS.Small
import HandS.Style
import HandS.Head0
import HandS.Head1
import HandS.Head2
import HandS.HeadEnd
import HandS.HeadHook1
import HandS.HeadHook2
section
set_option Elab.async false
set_option linter.all false
set_option maxRecDepth 100000
/-! Nested data and dicts with nested keys over the hand layer. -/
namespace Lk
open PySem PySem.Spec L2
open PyProof.Rows hiding St
open Evl (Ex)

abbrev D := NestedKey
/-- tuples stay -/
def Tx (H H' : Hp) : Prop := ∀ a xs, H a = some (.tup xs) → H' a = some (.tup xs)
theorem Ex.tx {H H' : Hp} (e : Ex H H') : Tx H H' := fun a _ h => e a _ h
theorem Tx.refl (H : Hp) : Tx H H := fun _ _ h => h
theorem Tx.trans {H H1 H2 : Hp} (a : Tx H H1) (b : Tx H1 H2) : Tx H H2 := fun x o h => b x o (a x o h)

mutual
/-- the value v is the datum d -/
def Im : D → V → Hp → Prop
  | .none, v, _ => v = .non
  | .num i, v, _ => v = .int i
  | .text x, v, _ => v = .str x
  | .tup ds, v, H => ∃ p vs, v = .ref p ∧ H p = some (.tup vs) ∧ ImAll ds vs H
def ImAll : List D → List V → Hp → Prop
  | [], vs, _ => vs = []
  | d :: ds, vs, H => ∃ v r, vs = v :: r ∧ Im d v H ∧ ImAll ds r H
end
theorem im_none {v : V} {H : Hp} : Im .none v H ↔ v = .non := by unfold Im; exact Iff.rfl
theorem im_num {i : Int} {v : V} {H : Hp} : Im (.num i) v H ↔ v = .int i := by unfold Im; exact Iff.rfl
theorem im_text {x : Str} {v : V} {H : Hp} : Im (.text x) v H ↔ v = .str x := by unfold Im; exact Iff.rfl
theorem im_tup {ds : List D} {v : V} {H : Hp} : Im (.tup ds) v H ↔ ∃ p vs, v = .ref p ∧ H p = some (.tup vs) ∧ ImAll ds vs H := by rw [Im]
theorem imAll_nil {vs : List V} {H : Hp} : ImAll [] vs H ↔ vs = [] := by rw [ImAll]
theorem imAll_cons {d : D} {ds : List D} {vs : List V} {H : Hp} : ImAll (d :: ds) vs H ↔ ∃ v r, vs = v :: r ∧ Im d v H ∧ ImAll ds r H := by rw [ImAll]

mutual
theorem Im.tmono {H H' : Hp} (t : Tx H H') : ∀ (d : D) (v : V), Im d v H → Im d v H'
  | .none, v, h => im_none.mpr (im_none.mp h)
  | .num i, v, h => im_num.mpr (im_num.mp h)
  | .text x, v, h => im_text.mpr (im_text.mp h)
  | .tup ds, v, h => by
    obtain ⟨p, vs, e, hp, ha⟩ := im_tup.mp h
    exact im_tup.mpr ⟨p, vs, e, t p vs hp, ImAll.tmono t ds vs ha⟩
theorem ImAll.tmono {H H' : Hp} (t : Tx H H') : ∀ (ds : List D) (vs : List V), ImAll ds vs H → ImAll ds vs H'
  | [], vs, h => imAll_nil.mpr (imAll_nil.mp h)
  | d :: ds, vs, h => by
    obtain ⟨v, r, e, hv, hr⟩ := imAll_cons.mp h
    exact imAll_cons.mpr ⟨v, r, e, Im.tmono t d v hv, ImAll.tmono t ds r hr⟩
end
theorem Im.mono {H H' : Hp} {d : D} {v : V} (h : Im d v H) (e : Ex H H') : Im d v H' := Im.tmono (Ex.tx e) d v h
theorem ImAll.mono {H H' : Hp} {ds : List D} {vs : List V} (h : ImAll ds vs H) (e : Ex H H') : ImAll ds vs H' := ImAll.tmono (Ex.tx e) ds vs h
theorem ImAll.length {H : Hp} : ∀ {ds : List D} {vs : List V}, ImAll ds vs H → vs.length = ds.length
  | [], vs, h => by rw [imAll_nil.mp h]; rfl
  | d :: ds, vs, h => by
    obtain ⟨v, r, e, _, hr⟩ := imAll_cons.mp h
    rw [e, List.length_cons, List.length_cons, ImAll.length hr]
theorem ImAll.get {H : Hp} : ∀ {ds : List D} {vs : List V} {i : Nat} {d : D}, ImAll ds vs H → ds[i]? = some d → ∃ v, vs[i]? = some v ∧ Im d v H
  | [], _, _, _, _, e => by simp at e
  | d :: ds, vs, 0, d', h, e => by
    obtain ⟨v, r, rfl, hv, _⟩ := imAll_cons.mp h
    have : d = d' := by simpa using e
    subst this
    exact ⟨v, rfl, hv⟩
  | d :: ds, vs, i + 1, d', h, e => by
    obtain ⟨v, r, rfl, _, hr⟩ := imAll_cons.mp h
    obtain ⟨w, h1, h2⟩ := ImAll.get (i := i) (d := d') hr (by simpa using e)
    exact ⟨w, by simpa using h1, h2⟩
theorem ImAll.back {H : Hp} : ∀ {ds : List D} {vs : List V} {i : Nat} {v : V}, ImAll ds vs H → vs[i]? = some v → ∃ d, ds[i]? = some d ∧ Im d v H
  | [], _, _, _, h, e => by rw [imAll_nil.mp h] at e; simp at e
  | d :: ds, vs, 0, v', h, e => by
    obtain ⟨v, r, rfl, hv, _⟩ := imAll_cons.mp h
    have : v = v' := by simpa using e
    subst this
    exact ⟨d, rfl, hv⟩
  | d :: ds, vs, i + 1, v', h, e => by
    obtain ⟨v, r, rfl, _, hr⟩ := imAll_cons.mp h
    obtain ⟨w, h1, h2⟩ := ImAll.back (i := i) (v := v') hr (by simpa using e)
    exact ⟨w, by simpa using h1, h2⟩
theorem ImAll.append {H : Hp} : ∀ {ds es : List D} {vs ws : List V}, ImAll ds vs H → ImAll es ws H → ImAll (ds ++ es) (vs ++ ws) H
  | [], es, vs, ws, h, g => by rw [imAll_nil.mp h]; exact g
  | d :: ds, es, vs, ws, h, g => by
    obtain ⟨v, r, rfl, hv, hr⟩ := imAll_cons.mp h
    exact imAll_cons.mpr ⟨v, r ++ ws, rfl, hv, ImAll.append hr g⟩
theorem ImAll.take {H : Hp} : ∀ (n : Nat) {ds : List D} {vs : List V}, ImAll ds vs H → ImAll (ds.take n) (vs.take n) H
  | 0, _, _, _ => imAll_nil.mpr rfl
  | n + 1, [], vs, h => by rw [imAll_nil.mp h]; exact imAll_nil.mpr rfl
  | n + 1, d :: ds, vs, h => by
    obtain ⟨v, r, rfl, hv, hr⟩ := imAll_cons.mp h
    exact imAll_cons.mpr ⟨v, r.take n, rfl, hv, ImAll.take n hr⟩
theorem ImAll.drop {H : Hp} : ∀ (n : Nat) {ds : List D} {vs : List V}, ImAll ds vs H → ImAll (ds.drop n) (vs.drop n) H
  | 0, _, _, h => h
  | n + 1, [], vs, h => by rw [imAll_nil.mp h]; exact imAll_nil.mpr rfl
  | n + 1, d :: ds, vs, h => by
    obtain ⟨v, r, rfl, _, hr⟩ := imAll_cons.mp h
    exact ImAll.drop n hr
theorem ImAll.of_get {H : Hp} : ∀ {ds : List D} {vs : List V}, vs.length = ds.length → (∀ (i : Nat) d v, ds[i]? = some d → vs[i]? = some v → Im d v H) → ImAll ds vs H
  | [], [], _, _ => imAll_nil.mpr rfl
  | [], _ :: _, h, _ => by simp at h
  | _ :: _, [], h, _ => by simp at h
  | d :: ds, v :: vs, h, g => imAll_cons.mpr ⟨v, vs, rfl, g 0 d v rfl rfl, ImAll.of_get (by simpa using h) fun i d' v' h1 h2 => g (i + 1) d' v' (by simpa using h1) (by simpa using h2)⟩
mutual
theorem Im.inj {H : Hp} : ∀ (d e : D) (v : V), Im d v H → Im e v H → d = e
  | .none, .none, _, _, _ => rfl
  | .num i, .num j, v, h, g => by
    have := (im_num.mp h).symm.trans (im_num.mp g)
    cases this; rfl
  | .text i, .text j, v, h, g => by
    have := (im_text.mp h).symm.trans (im_text.mp g)
    cases this; rfl
  | .tup ds, .tup es, v, h, g => by
    obtain ⟨p, vs, e1, hp, ha⟩ := im_tup.mp h
    obtain ⟨q, ws, e2, hq, hb⟩ := im_tup.mp g
    rw [e1] at e2
    cases e2
    rw [hp] at hq
    cases hq
    rw [ImAll.inj ds es vs ha hb]
  | .none, .num _, v, h, g => by have := (im_none.mp h).symm.trans (im_num.mp g); cases this
  | .none, .text _, v, h, g => by have := (im_none.mp h).symm.trans (im_text.mp g); cases this
  | .num _, .none, v, h, g => by have := (im_num.mp h).symm.trans (im_none.mp g); cases this
  | .num _, .text _, v, h, g => by have := (im_num.mp h).symm.trans (im_text.mp g); cases this
  | .text _, .none, v, h, g => by have := (im_text.mp h).symm.trans (im_none.mp g); cases this
  | .text _, .num _, v, h, g => by have := (im_text.mp h).symm.trans (im_num.mp g); cases this
  | .none, .tup _, v, h, g => by obtain ⟨p, vs, e, _⟩ := im_tup.mp g; have := (im_none.mp h).symm.trans e; cases this
  | .num _, .tup _, v, h, g => by obtain ⟨p, vs, e, _⟩ := im_tup.mp g; have := (im_num.mp h).symm.trans e; cases this
  | .text _, .tup _, v, h, g => by obtain ⟨p, vs, e, _⟩ := im_tup.mp g; have := (im_text.mp h).symm.trans e; cases this
  | .tup _, .none, v, h, g => by obtain ⟨p, vs, e, _⟩ := im_tup.mp h; have := e.symm.trans (im_none.mp g); cases this
  | .tup _, .num _, v, h, g => by obtain ⟨p, vs, e, _⟩ := im_tup.mp h; have := e.symm.trans (im_num.mp g); cases this
  | .tup _, .text _, v, h, g => by obtain ⟨p, vs, e, _⟩ := im_tup.mp h; have := e.symm.trans (im_text.mp g); cases this
theorem ImAll.inj {H : Hp} : ∀ (ds es : List D) (vs : List V), ImAll ds vs H → ImAll es vs H → ds = es
  | [], [], _, _, _ => rfl
  | [], _ :: _, vs, h, g => by
    obtain ⟨v, r, e, _⟩ := imAll_cons.mp g
    rw [imAll_nil.mp h] at e; cases e
  | _ :: _, [], vs, h, g => by
    obtain ⟨v, r, e, _⟩ := imAll_cons.mp h
    rw [imAll_nil.mp g] at e; cases e
  | d :: ds, e :: es, vs, h, g => by
    obtain ⟨v, r, e1, hv, hr⟩ := imAll_cons.mp h
    obtain ⟨v', r', e2, gv, gr⟩ := imAll_cons.mp g
    rw [e1] at e2
    cases e2
    rw [Im.inj d e v hv gv, ImAll.inj ds es r hr gr]
end

section
variable {X : Cx} {pins : List (Addr × Obj)} {σ : St} {H : Hp} {s : Shared}
mutual
/-- .. and so it stands in the heap -/
theorem Im.nested (I : Inv X pins σ H s) : ∀ (d : D) (v : V) (u : Value), Im d v H → RelV v u → NestedIs s.heap d u
  | .none, v, u, h, r => by
    cases im_none.mp h
    cases r
    exact .none
  | .num i, v, u, h, r => by
    cases im_num.mp h
    obtain ⟨t, rfl⟩ := r
    exact .int i t
  | .text x, v, u, h, r => by
    cases im_text.mp h
    obtain ⟨t, rfl⟩ := r
    exact .text x t
  | .tup ds, v, u, h, r => by
    obtain ⟨p, vs, rfl, hp, ha⟩ := im_tup.mp h
    cases r
    obtain ⟨its, rv, ⟨o, ho, hc, n, hd⟩, _⟩ := I.tuple (SqT.of hp)
    exact .tup ho hc hd (by simpa using ImAll.nested I ds vs its ha rv)
theorem ImAll.nested (I : Inv X pins σ H s) : ∀ (ds : List D) (vs : List V) (us : List Value), ImAll ds vs H → Vals vs us → NestedAll s.heap ds us
  | [], vs, us, h, r => by
    cases imAll_nil.mp h
    cases r
    exact .nil
  | d :: ds, vs, us, h, r => by
    obtain ⟨v, t, rfl, hv, ht⟩ := imAll_cons.mp h
    cases r with
    | cons r1 r2 => exact .cons (Im.nested I d v _ hv r1) (ImAll.nested I ds t _ ht r2)
end
end

/-! ### dicts whose keys are tuples of such -/
def dxO (a : Addr) (es : Array DictEntry) (ep : Nat) : HO := .ext fun h => h.DictRaw a es ep
theorem dxO_ok {P : Program} {w : World} {H : Hp} {h : Heap} {a : Addr} {es : Array DictEntry} {ep : Nat} (x : h.DictRaw a es ep) : ObjOk P w H h a (dxO a es ep) :=
  ⟨x, (let ⟨o, e, _⟩ := x; ⟨o, e⟩), fun _ _ y k => y.at k⟩
/-- entries and keys -/
abbrev KX (H : Hp) : List (D × V) → List (D × Addr × Value) → Prop := Paired fun p q => p.1 = q.1 ∧ Im p.1 (.ref q.2.1) H ∧ p.1.depth ≤ 8 ∧ RelV p.2 q.2.2
theorem KX.val {H : Hp} {kvs : List (D × V)} {xs : List (D × Addr × Value)} (r : KX H kvs xs) (k : D) : RelO (valV kvs k) ((atKey xs k).map (·.2)) := by
  induction r with
  | nil => exact True.intro
  | @cons p q ps qs h t ih =>
    obtain ⟨h1, _, _, h2⟩ := h
    by_cases e : p.1 = k
    · have e' : q.1 = k := h1.symm.trans e
      have b : atKey (q :: qs) k = some q.2 := by simp [atKey, List.find?_cons, e']
      rw [valV_pos e, b]; exact h2
    · have e' : ¬ q.1 = k := fun z => e (h1.trans z)
      have b : atKey (q :: qs) k = atKey qs k := by simp [atKey, List.find?_cons, e']
      rw [valV_neg e, b]; exact ih
theorem KX.repl {H : Hp} {kvs : List (D × V)} {xs : List (D × Addr × Value)} (r : KX H kvs xs) (k : D) {y : V} {u : Value} (ry : RelV y u) :
    KX H (kvs.map fun kv => if kv.1 = k then (kv.1, y) else kv) (xs.map (putAt k u)) := by
  induction r with
  | nil => exact .nil
  | @cons p q ps qs h t ih =>
    rw [List.map_cons, List.map_cons]
    refine .cons ?_ ih
    obtain ⟨h1, h2, h3, h4⟩ := h
    unfold putAt
    by_cases e : p.1 = k
    · rw [if_pos e, if_pos (h1.symm.trans e)]; exact ⟨h1, h2, h3, ry⟩
    · rw [if_neg e, if_neg (fun z => e (h1.trans z))]; exact ⟨h1, h2, h3, h4⟩
theorem KX.put {H : Hp} {kvs : List (D × V)} {xs : List (D × Addr × Value)} (r : KX H kvs xs) (k : D) {b : Addr} {y : V} {u : Value} (hb : Im k (.ref b) H) (hd : k.depth ≤ 8) (ry : RelV y u) :
    KX H (putK kvs k y) (storedH xs k b u) := by
  have e : (kvs.any fun kv => decide (kv.1 = k)) = (atKey xs k).isSome := by
    rw [valV_any, (r.val k).isSome_eq, Option.isSome_map]
  unfold putK storedH
  rw [e]
  by_cases q : (atKey xs k).isSome = true
  · rw [if_pos q, if_pos q]; exact r.repl k ry
  · rw [if_neg q, if_neg q]; exact Paired.snoc r ⟨rfl, hb, hd, ry⟩
theorem KX.drop {H : Hp} (k : D) : ∀ {kvs : List (D × V)} {xs : List (D × Addr × Value)}, KX H kvs xs → KX H (dropK kvs k) (xs.filter fun x => decide (x.1 ≠ k))
  | _, _, .nil => .nil
  | _, _, .cons (a := p) (b := q) h t => by
    have ih := KX.drop k t
    have e : decide (p.1 ≠ k) = decide (q.1 ≠ k) := by rw [h.1]
    unfold dropK at ih ⊢
    rw [List.filter_cons, List.filter_cons, e]
    by_cases z : decide (q.1 ≠ k) = true
    · rw [if_pos z, if_pos z]
      exact .cons h ih
    · rw [if_neg z, if_neg z]
      exact ih
theorem KX.keeps {H H' : Hp} {kvs : List (D × V)} {xs : List (D × Addr × Value)} (r : KX H kvs xs) (ht : Tx H H') : KX H' kvs xs :=
  Paired.mapP r fun _ _ z => ⟨z.1, Im.tmono ht _ _ z.2.1, z.2.2⟩
theorem KX.keys {H : Hp} {kvs : List (D × V)} {xs : List (D × Addr × Value)} (r : KX H kvs xs) : kvs.map (·.1) = xs.map (·.1) := by
  induction r with
  | nil => rfl
  | cons h t ih => rw [List.map_cons, List.map_cons, h.1, ih]

/-- the value v is a dict of the entries kvs -/
def DX (P : Program) (w : World) (kvs : List (D × V)) (v : V) (H : Hp) : Prop := ∃ (a : Addr) (es : Array DictEntry) (ep : Nat) (xs : List (D × Addr × Value)), v = .ref a ∧ H a = some (dxO a es ep) ∧ (a == sysModules) = false ∧ kvs.length ≤ sizeLine ∧
  es.toList = xs.map (entryOfKey (nestedKind P w)) ∧ (xs.map (·.1)).Nodup ∧ KX H kvs xs
section
variable {P : Program} {w : World} {H H' : Hp} {kvs : List (D × V)} {v : V} {a : Addr}
theorem DX.move (h : DX P w kvs v H) (t : Tx H H') (k : ∀ a, v = .ref a → H' a = H a) : DX P w kvs v H' := by
  obtain ⟨a, es, ep, xs, rfl, ha, hs, hl, he, hn, hk⟩ := h
  exact ⟨a, es, ep, xs, rfl, (k a rfl).trans ha, hs, hl, he, hn, hk.keeps t⟩
theorem DX.mono (h : DX P w kvs v H) (e : Ex H H') : DX P w kvs v H' := by
  obtain ⟨a, es, ep, xs, rfl, ha, hs, hl, he, hn, hk⟩ := h
  exact ⟨a, es, ep, xs, rfl, e a _ ha, hs, hl, he, hn, hk.keeps (Ex.tx e)⟩
theorem DX.nodup (h : DX P w kvs v H) : (kvs.map (·.1)).Nodup := by
  obtain ⟨a, es, ep, xs, rfl, ha, hs, hl, he, hn, hk⟩ := h
  rw [hk.keys]; exact hn
/-- where it stands nothing else is told -/
theorem DX.ref (h : DX P w kvs v H) : ∃ a es ep, v = .ref a ∧ H a = some (dxO a es ep) := by
  obtain ⟨a, es, ep, xs, rfl, ha, _⟩ := h
  exact ⟨a, es, ep, rfl, ha⟩
end

section
variable {X : Cx} {pins : List (Addr × Obj)} {σ : St} {H : Hp} {s : Shared} {kvs : List (D × V)} {v : V}
theorem KX.all (I : Inv X pins σ H s) {l : List (D × V)} {m : List (D × Addr × Value)} (q : KX H l m) : ∀ x ∈ m, (nestedKind X.prog X.w).is s.heap x.1 x.2.1 := by
  induction q with
  | nil => intro x hx; exact nomatch hx
  | @cons p q ps qs hq t ih =>
    intro x hx
    rcases List.mem_cons.mp hx with e | hx
    · subst e
      exact ⟨Im.nested I _ (.ref x.2.1) _ (by rw [← hq.1]; exact hq.2.1) rfl, by rw [← hq.1]; exact hq.2.2.1⟩
    · exact ih x hx
/-- the dict in the heap -/
theorem DX.at_ (I : Inv X pins σ H s) (h : DX X.prog X.w kvs v H) : ∃ (a : Addr) (es : Array DictEntry) (ep : Nat) (xs : List (D × Addr × Value)), v = .ref a ∧ H a = some (dxO a es ep) ∧ (a == sysModules) = false ∧ kvs.length ≤ sizeLine ∧ xs.length ≤ sizeLine ∧ KX H kvs xs ∧
    s.heap.DictOfH (nestedKind X.prog X.w) a xs ∧ s.heap.DictRaw a es ep ∧ es.toList = xs.map (entryOfKey (nestedKind X.prog X.w)) := by
  obtain ⟨a, es, ep, xs, rfl, ha, hs, hl, he, hn, hk⟩ := h
  obtain ⟨raw, _, _⟩ := I.hok a _ ha
  obtain ⟨o, h1, h2, h3⟩ := id raw
  exact ⟨a, es, ep, xs, rfl, ha, hs, hl, by rw [← Paired.length hk]; exact hl, hk, ⟨o, es, ep, h1, h2, h3, he, hk.all I, hn⟩, raw, he⟩
theorem keyIs_of (I : Inv X pins σ H s) {k : D} {b : Addr} (h : Im k (.ref b) H) (hd : k.depth ≤ 8) : (nestedKind X.prog X.w).is s.heap k b := ⟨Im.nested I k _ _ h rfl, hd⟩
/-- a tuple key's value is an address -/
theorem im_ref {k : D} {y : V} (h : Im k y H) (ht : ∃ ds, k = .tup ds) : ∃ b, y = .ref b := by
  obtain ⟨ds, rfl⟩ := ht
  obtain ⟨p, vs, e, _⟩ := im_tup.mp h
  exact ⟨p, e⟩
def isT : D → Bool
  | .tup _ => true
  | _ => false
theorem isT_ref {k : D} {y : V} (h : Im k y H) (ht : isT k = true) : ∃ b, y = .ref b := by
  cases k with
  | tup ds => exact im_ref h ⟨ds, rfl⟩
  | none => cases ht
  | num _ => cases ht
  | text _ => cases ht
/-- the dict is written: the rest stands -/
theorem dx_write {h' : Heap} {t' : Nat} {a : Addr} {es : Array DictEntry} {ep : Nat} {kvs' : List (D × V)} {xs' : List (D × Addr × Value)} (I : Inv X pins σ H s) (ha : H a = some (dxO a es ep)) (hsm : (a == sysModules) = false) (hl : kvs'.length ≤ sizeLine)
    (hk : KX H kvs' xs') (dd : h'.DictOfH (nestedKind X.prog X.w) a xs') (hs : Heap.SameBut a s.heap h') :
    ∃ H', (∀ b, b ≠ a → H' b = H b) ∧ (∃ es' ep', H' a = some (dxO a es' ep')) ∧ DX X.prog X.w kvs' (.ref a) H' ∧ Inv X pins σ H' { s with heap := h', toks := t' } := by
  obtain ⟨o, es', ep', h1, h2, h3, h4, _, h5⟩ := dd
  have tx : Tx H (upd H a (dxO a es' ep')) := fun b xs e => by
    rw [upd_ne (ne_of e ha (fun z => nomatch z))]
    exact e
  refine ⟨upd H a (dxO a es' ep'), fun b hb => upd_ne hb, ⟨es', ep', upd_same⟩, ⟨a, es', ep', xs', rfl, upd_same, hsm, hl, h4, h5, hk.keeps tx⟩, ?_⟩
  refine I.write (x := a) (e := a) (o := dxO a es' ep') (by rw [ha]; exact True.intro) (.inl rfl) (fun b u hb q => (hs.2 b hb).trans q) ⟨o, h1⟩ (dxO_ok ⟨o, h1, h2, h3⟩)
end

/-! ### the rules -/
section
variable {X : Cx}
/-- room for keys -/
theorem roomK {A : Around} {k : Nat} (hr : Room k A) : A.units + 64 < cLine := hr.units
def tDXNew : TE := fun _ H Q => ∀ p, H p = none → Q (.ref p) (upd H p (dxO p #[] 0))
theorem pe_dxnew {pos : Pos} : PE X (.Dict [] [] pos) tDXNew := ⟨fun pins s σ H Q I h =>
  wpAny_Dict_empty ⟨.ref s.heap.objs.size, _, I.laid (a := s.heap.objs.size) (o := dxO s.heap.objs.size #[] 0) (t' := s.toks) (fun _ _ q => Heap.get?_push_of_some _ q) (Nat.le_refl _)
    (dxO_ok ⟨_, Heap.get?_push_size _ rfl, ⟨rfl, rfl, rfl⟩, rfl⟩), rfl, h _ (I.hok.fresh (Nat.le_refl _))⟩⟩
/-- a new address is not that of sys.modules: needed to tell that the new dict is one -/
theorem dx_new_at {P : Program} {w : World} {H : Hp} {p : Addr} (h : (p == sysModules) = false) : DX P w [] (.ref p) (upd H p (dxO p #[] 0)) :=
  ⟨p, #[], 0, [], rfl, upd_same, h, Nat.zero_le _, rfl, List.nodup_nil, .nil⟩
def tDXNew' (P : Program) (w : World) : TE := fun _ H Q => ∀ p H', H p = none → Ex H H' → DX P w [] (.ref p) H' → Q (.ref p) H'
theorem pe_dxnew' {pos : Pos} : PE X (.Dict [] [] pos) (tDXNew' X.prog X.w) := ⟨fun pins s σ H Q I h =>
  wpAny_Dict_empty ⟨.ref s.heap.objs.size, _, I.laid (a := s.heap.objs.size) (o := dxO s.heap.objs.size #[] 0) (t' := s.toks) (fun _ _ q => Heap.get?_push_of_some _ q) (Nat.le_refl _)
    (dxO_ok ⟨_, Heap.get?_push_size _ rfl, ⟨rfl, rfl, rfl⟩, rfl⟩), rfl, h _ _ (I.hok.fresh (Nat.le_refl _)) (Ex.new (I.hok.fresh (Nat.le_refl _))) (dx_new_at (beq_eq_false_iff_ne.mpr (Ne.symm (Nat.ne_of_lt I.big))))⟩⟩

def rInX (P : Program) (w : World) (neg : Bool) : R2 := fun x y H Q => ∃ kvs k, DX P w kvs y H ∧ Im k x H ∧ isT k = true ∧ k.depth ≤ 8 ∧ Q (.bl (if neg then !(valV kvs k).isSome else (valV kvs k).isSome)) H
theorem in1 {A : Around} (hu : A.units + 64 < cLine) (w : World) (P : Program) : (nestedKind P w).room A.in1 := by
  show A.units + 1 + 8 < cLine
  omega
theorem op_inX (hu : X.A.units + 64 < cLine) : OpR X (compareOp .In) (rInX X.prog X.w false) := by
  intro pins s σ H x y v u Q I rx ry h
  obtain ⟨kvs, k, hd, hk, ht, h8, q⟩ := h
  obtain ⟨a, es, ep, xs, rfl, ha, hsm, hl, hl2, kx, dd, raw, he⟩ := hd.at_ I
  obtain ⟨b, rfl⟩ := isT_ref hk ht
  cases rx; cases ry
  refine wpAny_in_heap (in1 hu X.w X.prog) (keyIs_of I hk h8) hsm dd ?_
  have e := (kx.val k).isSome_eq
  rw [Option.isSome_map] at e
  refine ⟨_, H, I.tok _, ?_, q⟩
  rw [← e]; rfl
theorem op_notInX (hu : X.A.units + 64 < cLine) : OpR X (compareOp .NotIn) (rInX X.prog X.w true) := by
  intro pins s σ H x y v u Q I rx ry h
  obtain ⟨kvs, k, hd, hk, ht, h8, q⟩ := h
  obtain ⟨a, es, ep, xs, rfl, ha, hsm, hl, hl2, kx, dd, raw, he⟩ := hd.at_ I
  obtain ⟨b, rfl⟩ := isT_ref hk ht
  cases rx; cases ry
  refine notIn_keyed (in1 hu X.w X.prog) (keyIs_of I hk h8) hsm ⟨xs, dd, rfl⟩ ?_
  have e := (kx.val k).isSome_eq
  rw [Option.isSome_map] at e
  refine ⟨_, H, I.tok _, ?_, q⟩
  rw [valueAt_pairsH, Option.isSome_map, ← e]; rfl
def rIxX (P : Program) (w : World) : R2 := fun x y H Q => ∃ kvs k v, DX P w kvs x H ∧ Im k y H ∧ isT k = true ∧ k.depth ≤ 8 ∧ valV kvs k = some v ∧ Q v H
theorem ix_dx (hu : X.A.units + 64 < cLine) : IxR X (rIxX X.prog X.w) := by
  intro value slice pins s σ H x y v u Q I rx ry h hs
  obtain ⟨kvs, k, z, hd, hk, ht, h8, hv, q⟩ := h
  obtain ⟨a, es, ep, xs, rfl, ha, hsm, hl, hl2, kx, dd, raw, he⟩ := hd.at_ I
  obtain ⟨b, rfl⟩ := isT_ref hk ht
  cases rx; cases ry
  have r := kx.val k
  rw [hv] at r
  obtain ⟨u', eu, ru⟩ := r.some_of
  refine subscriptTail_builtinR (x := u') raw.typeIs PySem.F.slot_dict_getitem.lookup ?_ hs
  refine getItem_keyed (kvs := pairsH xs) (in1 hu X.w X.prog) (keyIs_of I hk h8) ⟨xs, dd, rfl⟩ (by rw [valueAt_pairsH]; exact eu) ⟨rfl, z, H, I.tok _, ru, q⟩
def rPutX (P : Program) (w : World) : TSet := fun o i v H Q => ∃ a kvs k, o = .ref a ∧ DX P w kvs o H ∧ Im k i H ∧ isT k = true ∧ k.depth ≤ 8 ∧ kvs.length < sizeLine ∧
  ∀ H', (∀ b, b ≠ a → H' b = H b) → (∃ es ep, H' a = some (dxO a es ep)) → DX P w (putK kvs k v) o H' → Q H'
theorem set_dx (hu : X.A.units + 64 < cLine) : PSet X (rPutX X.prog X.w) := by
  intro pins s σ H o i v ov iv u Q I ro ri rv h
  obtain ⟨a0, kvs, k, e0, hd, hk, ht, h8, hlt, q⟩ := h
  obtain ⟨a, es, ep, xs, ea, ha, hsm, hl, hl2, kx, dd, raw, he⟩ := hd.at_ I
  subst e0
  cases ea
  obtain ⟨b, rfl⟩ := isT_ref hk ht
  cases ro; cases ri
  refine wpAny_setItem_heap (hsz := hl2) (in1 hu X.w X.prog) (keyIs_of I hk h8) dd fun h' dd' hs => ?_
  have hl' : (putK kvs k v).length ≤ sizeLine := by have := length_putK kvs k v; omega
  obtain ⟨H', k1, k2, k3, I'⟩ := dx_write (t' := s.toks + (nestedKind X.prog X.w).draws k) I ha hsm hl' (kx.put k hk h8 rv) dd' hs
  exact ⟨H', I', q H' k1 k2 k3⟩
end
end Lk
end

section
set_option Elab.async false
set_option linter.all false
set_option maxRecDepth 100000
/-! Dicts with nested keys: methods, walks, conversions, isinstance, equality, comprehensions. -/
namespace Lk
open PySem PySem.Spec L2
open PyProof.Rows hiding St
open Evl (Ex)

/-! ### methods -/
section
variable {X : Cx} {o e : Expr} {es : List Expr} {to : TE} {t : TA} {name : Str} {apos cpos : Pos} {id : String} {r : V → List V → Hp → VK → Prop}
def tXM0 (P : Program) (w : World) (r : V → List V → Hp → VK → Prop) (to : TE) : TE := fun σ H Q => to σ H fun x H1 => (∃ kvs, DX P w kvs x H1) ∧ r x [] H1 Q
def tXM (P : Program) (w : World) (r : V → List V → Hp → VK → Prop) (to : TE) (t : TA) : TE := fun σ H Q => to σ H fun x H1 => (∃ kvs, DX P w kvs x H1) ∧ t σ H1 fun xs H2 => r x xs H2 Q
theorem dx_type {pins : List (Addr × Obj)} {σ : L2.St} {H : Hp} {s : Shared} {x : V} {v : Value} (I : Inv X pins σ H s) (r : RelV x v) (d : ∃ kvs, DX X.prog X.w kvs x H) :
    s.TypeIs v "dict" ∧ ∀ a, v = .ref a → ∃ ob, s.heap.get? a = some ob ∧ ob.dict = none := by
  obtain ⟨kvs, hd⟩ := d
  obtain ⟨a, es, ep, xs, rfl, ha, _, _, _, _, _, raw, _⟩ := hd.at_ I
  cases r
  refine ⟨raw.typeIs, fun b q => ?_⟩
  cases q
  obtain ⟨ob, h1, h2, _⟩ := raw
  exact ⟨ob, h1, h2.2.1⟩
theorem pe_xm0 (slot : Slot "dict" name id) (hty : typeOf (.builtin id) = pure (.type "method_descriptor")) (hm : MtR X id r) (ho : PE X o to)
    (hbase : attributeBase o name X.env (eval o X.env) = eval o X.env := by rfl) (hline : (apos.endLine == cpos.line) = true := by rfl) : PE X (.Call (.Attribute o name apos) [] [] cpos) (tXM0 X.prog X.w r to) := by
  refine ⟨fun pins s σ H Q I h => ?_⟩
  refine wpAny_Call_method0_late hbase hline (thn (ho.run pins s σ H _ I h) fun v s1 ⟨x, H1, I1, r1, ty, q1⟩ => ?_)
  obtain ⟨h1, h2⟩ := dx_type I1 r1 ty
  exact ⟨"dict", id, PySem.F.plainAttrs_dict, slot, hty, h1, h2, Calls.callWith_builtin rfl (PySem.evalArgs_none (hm pins s1 σ H1 x [] v [] Q I1 r1 .nil q1))⟩
theorem pe_xm (slot : Slot "dict" name id) (hty : typeOf (.builtin id) = pure (.type "method_descriptor")) (hm : MtR X id r) (ho : PE X o to) (ha : PA X (e :: es) t)
    (hbase : attributeBase o name X.env (eval o X.env) = eval o X.env := by rfl)
    (hfew : ((backTo cpos (starEach (e :: es) X.env)).all (fun x => !x.1) && (backToKw cpos (keywordEach [] X.env)).all (fun x => x.1.isSome)
      && decide ((e :: es).length + ([] : List Keyword).length + (if ([] : List Keyword).isEmpty then 0 else 1) < 30)) = true := by rfl)
    (hline : (apos.endLine == cpos.line) = true := by rfl) (hs : starEach (e :: es) X.env = (false, eval e X.env) :: starEach es X.env := by rfl) (hplain : (backTo cpos (starEach es X.env)).any (·.1) = false := by rfl) :
    PE X (.Call (.Attribute o name apos) (e :: es) [] cpos) (tXM X.prog X.w r to t) := by
  refine ⟨fun pins s σ H Q I h => ?_⟩
  refine wpAny_Call_method_late hbase hfew hline rfl (thn (ho.run pins s σ H _ I h) fun v s1 ⟨x, H1, I1, r1, ty, q1⟩ => ?_)
  obtain ⟨h1, h2⟩ := dx_type I1 r1 ty
  refine ⟨"dict", id, PySem.F.plainAttrs_dict, slot, hty, h1, h2, ?_⟩
  have hA := ha.run cpos pins s1 σ H1 _ I1 q1
  rw [hs] at hA ⊢
  refine Calls.callWith_builtin (by show (false || (backTo cpos (starEach es X.env)).any (·.1)) = false; rw [hplain] <;> rfl) (Calls.evalArgs_plain ?_)
  exact thn hA fun us s2 ⟨vs, H2, I2, r2, q2⟩ => hm pins s2 σ H2 x vs v us Q I2 r1 r2 q2
end
section
variable {X : Cx}
/-- d.get(k), d.get(k, z) -/
def rGetX (P : Program) (w : World) : V → List V → Hp → VK → Prop := fun x xs H Q => ∃ kvs k y, DX P w kvs x H ∧ Im k y H ∧ isT k = true ∧ k.depth ≤ 8 ∧ ((xs = [y] ∧ Q ((valV kvs k).getD .non) H) ∨ ∃ z, xs = [y, z] ∧ Q ((valV kvs k).getD z) H)
theorem mt_getX (hu : X.A.units + 64 < cLine) : MtR X "dict.get" (rGetX X.prog X.w) := by
  intro pins s σ H x xs v us Q I rx rxs h
  obtain ⟨kvs, k, y, hd, hk, ht, h8, q⟩ := h
  obtain ⟨a, es, ep, ks, rfl, ha, hsm, hl, hl2, kx, dd, raw, he⟩ := hd.at_ I
  obtain ⟨b, rfl⟩ := isT_ref hk ht
  cases rx
  have rr := kx.val k
  rcases q with ⟨rfl, q⟩ | ⟨z, rfl, q⟩
  · obtain ⟨u, rfl, ru⟩ := vals1 rxs
    cases ru
    refine get_keyed (kvs := pairsH ks) (in1 hu X.w X.prog) (keyIs_of I hk h8) hsm ⟨ks, dd, rfl⟩ ?_
    refine ⟨_, H, I.tok _, ?_, q⟩
    rw [valueAt_pairsH]
    exact rr.getD rfl
  · obtain ⟨u, u2, rfl, ru, rz⟩ := vals2 rxs
    cases ru
    refine getOr_keyed (kvs := pairsH ks) (in1 hu X.w X.prog) (keyIs_of I hk h8) hsm ⟨ks, dd, rfl⟩ ?_
    refine ⟨_, H, I.tok _, ?_, q⟩
    rw [valueAt_pairsH]
    exact rr.getD rz
/-- d.pop(k), it is there -/
def rPopX (P : Program) (w : World) : V → List V → Hp → VK → Prop := fun x xs H Q => ∃ a kvs k y v, x = .ref a ∧ xs = [y] ∧ DX P w kvs x H ∧ Im k y H ∧ isT k = true ∧ k.depth ≤ 8 ∧ valV kvs k = some v ∧
  ∀ H', (∀ b, b ≠ a → H' b = H b) → (∃ es ep, H' a = some (dxO a es ep)) → DX P w (dropK kvs k) x H' → Q v H'
theorem mt_popX (hu : X.A.units + 64 < cLine) : MtR X "dict.pop" (rPopX X.prog X.w) := by
  intro pins s σ H x xs v us Q I rx rxs h
  obtain ⟨a0, kvs, k, y, z, ea, rfl, hd, hk, ht, h8, hv, q⟩ := h
  obtain ⟨a, es, ep, ks, e2, ha, hsm, hl, hl2, kx, dd, raw, he⟩ := hd.at_ I
  subst ea
  cases e2
  obtain ⟨b, rfl⟩ := isT_ref hk ht
  obtain ⟨u, rfl, ru⟩ := vals1 rxs
  cases rx; cases ru
  have rr := kx.val k
  rw [hv] at rr
  obtain ⟨u', eu, ru'⟩ := rr.some_of
  obtain ⟨p, hp, rfl⟩ := Option.map_eq_some_iff.mp eu
  refine call_pop_heap (hsz := hl2) (more := []) (.inl rfl) (PySem.F.args_dict_pop_2 _ _) (in1 hu X.w X.prog) (keyIs_of I hk h8) hsm dd hp fun h' dd' hs => ?_
  have hl' : (dropK kvs k).length ≤ sizeLine := Nat.le_trans (dropK_le kvs k) hl
  obtain ⟨H', k1, k2, k3, I'⟩ := dx_write (t' := s.toks + (nestedKind X.prog X.w).draws k) I ha hsm hl' (kx.drop k) dd' hs
  exact ⟨z, H', I', ru', q H' k1 k2 k3⟩
/-- d.clear() -/
def rClearX (P : Program) (w : World) : V → List V → Hp → VK → Prop := fun x xs H Q => ∃ a kvs, x = .ref a ∧ xs = [] ∧ DX P w kvs x H ∧
  ∀ H', (∀ b, b ≠ a → H' b = H b) → (∃ es ep, H' a = some (dxO a es ep)) → DX P w [] x H' → Q .non H'
theorem mt_clearX : MtR X "dict.clear" (rClearX X.prog X.w) := by
  intro pins s σ H x xs v us Q I rx rxs h
  obtain ⟨a0, kvs, ea, rfl, hd, q⟩ := h
  obtain ⟨a, es, ep, ks, e2, ha, hsm, hl, hl2, kx, dd, raw, he⟩ := hd.at_ I
  subst ea
  cases e2
  cases rx
  cases rxs
  refine clear_keyed (hsz := by rw [pairsH_length]; exact hl2) ⟨ks, dd, rfl⟩ fun h' dd' hs => ?_
  obtain ⟨xs', dx', e'⟩ := dd'
  have e0 : xs' = [] := by
    cases xs' with
    | nil => rfl
    | cons _ _ => cases e'
  subst e0
  obtain ⟨H', k1, k2, k3, I'⟩ := dx_write (kvs' := []) (t' := s.toks) I ha hsm (Nat.zero_le _) .nil dx' hs
  exact ⟨.non, H', I', rfl, q H' k1 k2 k3⟩
/-- len(d) -/
def rLenX (P : Program) (w : World) : List V → Hp → VK → Prop := fun xs H Q => ∃ x kvs, xs = [x] ∧ DX P w kvs x H ∧ Q (.int ((kvs.length : Nat) : Int)) H
theorem call_lenX : CallR X (.builtin "len") (rLenX X.prog X.w) := by
  intro pins s σ H xs us Q I r h
  obtain ⟨x, kvs, rfl, hd, q⟩ := h
  obtain ⟨u, rfl, rx⟩ := vals1 r
  obtain ⟨a, es, ep, ks, rfl, ha, hsm, hl, hl2, kx, dd, raw, he⟩ := hd.at_ I
  cases rx
  have e : kvs.length = ks.length := Paired.length kx
  refine call_len_dictH hsm dd (by rw [sizeLine_eq] at hl2; omega) ?_
  rw [← e]
  exact ⟨.int ((kvs.length : Nat) : Int), H, I.tok _, ⟨_, rfl⟩, q⟩
/-- isinstance(d, dict) -/
def rIsiX (P : Program) (w : World) : List V → Hp → VK → Prop := fun xs H Q => ∃ x kvs, xs = [x, .ty "dict"] ∧ DX P w kvs x H ∧ Q (.bl true) H
theorem call_isiX : CallR X (.builtin "isinstance") (rIsiX X.prog X.w) := by
  intro pins s σ H xs us Q I r h
  obtain ⟨x, kvs, rfl, hd, q⟩ := h
  obtain ⟨u1, u2, rfl, r1, r2⟩ := vals2 r
  obtain ⟨a, es, ep, ks, rfl, ha, hsm, hl, hl2, kx, dd, raw, he⟩ := hd.at_ I
  cases r1; cases r2
  obtain ⟨o, h1, h2, _⟩ := raw
  exact PySem.W.kia_one PySem.W.kitx_dict I.kIn ⟨o, h1, h2.1⟩ (kit_ty (r := true) (by decide +kernel)) (fun z => nomatch z) fun tk => ⟨.bl true, H, I.tok tk, rfl, q⟩
end

/-! ### what is walked: the keys, the values -/
/-- the dict as it stands -/
def DXe (P : Program) (w : World) (kvs : List (D × V)) (a : Addr) (es : Array DictEntry) (ep : Nat) (H : Hp) : Prop := ∃ xs : List (D × Addr × Value), H a = some (dxO a es ep) ∧ (a == sysModules) = false ∧ kvs.length ≤ sizeLine ∧
  es.toList = xs.map (entryOfKey (nestedKind P w)) ∧ (xs.map (·.1)).Nodup ∧ KX H kvs xs
section
variable {P : Program} {w : World} {H H' : Hp} {kvs : List (D × V)} {v : V} {a : Addr} {es : Array DictEntry} {ep : Nat}
theorem DX.e (h : DX P w kvs v H) : ∃ a es ep, v = .ref a ∧ DXe P w kvs a es ep H := by
  obtain ⟨a, es, ep, xs, rfl, r⟩ := h
  exact ⟨a, es, ep, rfl, xs, r⟩
theorem DXe.dx (h : DXe P w kvs a es ep H) : DX P w kvs (.ref a) H := by
  obtain ⟨xs, r⟩ := h
  exact ⟨a, es, ep, xs, rfl, r⟩
theorem DXe.mono (h : DXe P w kvs a es ep H) (e : Ex H H') : DXe P w kvs a es ep H' := by
  obtain ⟨xs, ha, hs, hl, he, hn, hk⟩ := h
  exact ⟨xs, e a _ ha, hs, hl, he, hn, hk.keeps (Ex.tx e)⟩
theorem kx_get {xs : List (D × Addr × Value)} (q : KX H kvs xs) {i : Nat} (hi : i < kvs.length) : ∃ k v y, kvs[i]? = some (k, v) ∧ xs[i]? = some y ∧ k = y.1 ∧ Im k (.ref y.2.1) H ∧ k.depth ≤ 8 ∧ RelV v y.2.2 := by
  obtain ⟨⟨k, v⟩, hkv⟩ : ∃ p, kvs[i]? = some p := ⟨kvs[i], List.getElem?_eq_getElem hi⟩
  obtain ⟨y, hy, h1, h2, h3, h4⟩ := paired_get q hkv
  exact ⟨k, v, y, hkv, hy, h1, h2, h3, h4⟩
end
def ItX (P : Program) (w : World) (kvs : List (D × V)) (a : Addr) (es : Array DictEntry) (ep : Nat) : It :=
  ⟨fun i H => DXe P w kvs a es ep H ∧ i < kvs.length, fun i H x H' => H' = H ∧ ∃ (en : DictEntry) (b : Addr), es[i]? = some en ∧ en.key = .ref b ∧ x = .ref b, fun i H => DXe P w kvs a es ep H ∧ kvs.length ≤ i⟩
def ItXv (P : Program) (w : World) (kvs : List (D × V)) (a : Addr) (es : Array DictEntry) (ep : Nat) : It :=
  ⟨fun i H => DXe P w kvs a es ep H ∧ i < kvs.length, fun i H x H' => H' = H ∧ ∃ k, kvs[i]? = some (k, x), fun i H => DXe P w kvs a es ep H ∧ kvs.length ≤ i⟩
theorem isT_of {k : D} {b : Addr} {H : Hp} (h : Im k (.ref b) H) : isT k = true := by
  cases k with
  | tup ds => rfl
  | none => cases im_none.mp h
  | num _ => cases im_num.mp h
  | text _ => cases im_text.mp h
section
variable {P : Program} {w : World} {K : PySem.W.Frag} {tg : Expr} {kvs : List (D × V)} {a : Addr} {es : Array DictEntry} {ep : Nat}
theorem DXe.raw {X : Cx} {pins : List (Addr × Obj)} {σ : L2.St} {H : Hp} {s : Shared} (I : Inv X pins σ H s) (h : DXe X.prog X.w kvs a es ep H) : s.heap.DictRaw a es ep ∧ es.size = kvs.length ∧ (a == sysModules) = false ∧
    ∀ i, i < kvs.length → ∃ k v b en, kvs[i]? = some (k, v) ∧ es[i]? = some en ∧ en.key = .ref b ∧ Im k (.ref b) H ∧ k.depth ≤ 8 ∧ RelV v en.val := by
  obtain ⟨xs, ha, hs, hl, he, hn, hk⟩ := h
  obtain ⟨raw, _, _⟩ := I.hok a _ ha
  have e1 : es.size = xs.length := size_of_entries he
  have e2 : kvs.length = xs.length := Paired.length hk
  refine ⟨raw, by omega, hs, fun i hi => ?_⟩
  obtain ⟨k, v, y, h1, h2, h3, h4, h5, h6⟩ := kx_get hk hi
  have hi' : i < es.size := by omega
  have q := entry_at he i
  rw [h2, Array.getElem?_eq_getElem hi'] at q
  have q' : es[i] = entryOfKey (nestedKind X.prog X.w) y := Option.some.inj q
  exact ⟨k, v, y.2.1, es[i], h1, Array.getElem?_eq_getElem hi', by rw [q']; rfl, h4, h5, by rw [q']; exact h6⟩
theorem turn_keysX (it : Addr) : Turn P w K tg (ItX P w kvs a es ep) [it] it (fun i h => h.IsKeyIter it a i kvs.length ep) where
  mem := List.mem_singleton.mpr rfl
  obj := fun i h st b hb => by
    rw [List.mem_singleton.mp hb]
    obtain ⟨oi, e, c, dd⟩ := st
    exact ⟨oi, e, fun v z => by rw [dd] at z; cases z⟩
  keep := fun i h h' st k => st.at fun oi e => k it (List.mem_singleton.mpr rfl) oi e
  item := by
    intro X hP hw hK hc i pins s σ H E I hf st hg
    subst hP hw hK
    obtain ⟨f0, f1, f2, f3, f4, f5⟩ := hf it (List.mem_singleton.mpr rfl)
    obtain ⟨raw, hsz, hsm, ent⟩ := hg.1.raw I
    obtain ⟨k, v, b, en, h1, h6, h3, h2, h4, h5⟩ := ent i hg.2
    obtain ⟨hi, h7⟩ := Array.getElem?_eq_some_iff.mp h6
    subst h7
    have st' : s.heap.IsKeyIter it a i es.size ep := by rw [hsz]; exact st
    refine wpAny_pyNext_keys_item_raw st' raw hi fun h' s1 sb => ?_
    have I1 : Inv X pins σ H { s with heap := h' } := I.turned (t' := s.toks) (fun b ob hb e => (sb.2 b hb).trans e) f0 f1 f3 f4 f5
    obtain ⟨oi, e, c, dd⟩ := id s1
    rw [hsz] at s1
    exact ⟨es[i].key, rfl, go_of (s := { s with heap := h' }) e c dd (by decide) ⟨.ref _, H, I1, h3, ⟨rfl, es[i], b, h6, h3, rfl⟩, s1, fun b hb => (hf b hb).1⟩⟩
  done := by
    intro X hP hw hK hc i pins s σ H E I hf st hg
    subst hP hw hK
    obtain ⟨f0, f1, f2, f3, f4, f5⟩ := hf it (List.mem_singleton.mpr rfl)
    obtain ⟨raw, hsz, hsm, ent⟩ := hg.1.raw I
    have st' : s.heap.IsKeyIter it a i es.size ep := by rw [hsz]; exact st
    exact wpAny_pyNext_keys_end_raw (I.ok.hd hc) st' raw (by rw [hsz]; exact hg.2) fun h' eb => ⟨rfl, I.turned (t' := s.toks) (fun b ob hb e => eb b ob hb e) f0 f1 f3 f4 f5⟩
  self := fun A i s Q E st h => wpAny_pyIter_keyiter st h
theorem turn_valsX (it : Addr) : Turn P w K tg (ItXv P w kvs a es ep) [it] it (fun i h => h.IsValIter it a i kvs.length ep) where
  mem := List.mem_singleton.mpr rfl
  obj := fun i h st b hb => by
    rw [List.mem_singleton.mp hb]
    obtain ⟨oi, e, c, dd⟩ := st
    exact ⟨oi, e, fun v z => by rw [dd] at z; cases z⟩
  keep := fun i h h' st k => st.at fun oi e => k it (List.mem_singleton.mpr rfl) oi e
  item := by
    intro X hP hw hK hc i pins s σ H E I hf st hg
    subst hP hw hK
    obtain ⟨f0, f1, f2, f3, f4, f5⟩ := hf it (List.mem_singleton.mpr rfl)
    obtain ⟨raw, hsz, hsm, ent⟩ := hg.1.raw I
    obtain ⟨k, v, b, en, h1, h6, h3, h2, h4, h5⟩ := ent i hg.2
    obtain ⟨hi, h7⟩ := Array.getElem?_eq_some_iff.mp h6
    subst h7
    have st' : s.heap.IsValIter it a i es.size ep := by rw [hsz]; exact st
    refine wpAny_pyNext_values_item_raw st' raw hi fun h' s1 sb => ?_
    have I1 : Inv X pins σ H { s with heap := h' } := I.turned (t' := s.toks) (fun b ob hb e => (sb.2 b hb).trans e) f0 f1 f3 f4 f5
    obtain ⟨oi, e, c, dd⟩ := id s1
    rw [hsz] at s1
    exact ⟨es[i].val, rfl, go_of (s := { s with heap := h' }) e c dd (by decide) ⟨v, H, I1, h5, ⟨rfl, k, h1⟩, s1, fun b hb => (hf b hb).1⟩⟩
  done := by
    intro X hP hw hK hc i pins s σ H E I hf st hg
    subst hP hw hK
    obtain ⟨f0, f1, f2, f3, f4, f5⟩ := hf it (List.mem_singleton.mpr rfl)
    obtain ⟨raw, hsz, hsm, ent⟩ := hg.1.raw I
    have st' : s.heap.IsValIter it a i es.size ep := by rw [hsz]; exact st
    exact wpAny_pyNext_values_end_raw (I.ok.hd hc) st' raw (by rw [hsz]; exact hg.2) fun h' eb => ⟨rfl, I.turned (t' := s.toks) (fun b ob hb e => eb b ob hb e) f0 f1 f3 f4 f5⟩
  self := fun A i s Q E st h => wpAny_pyIter_valiter st h
theorem walk_valsX : Walk (ItXv P w kvs a es ep) kvs.length (fun H => DXe P w kvs a es ep H) (fun i H x H' => H' = H ∧ ∃ k, kvs[i]? = some (k, x)) :=
  ⟨fun _ _ hi q => ⟨q, hi⟩, fun _ q => ⟨q, Nat.le_refl _⟩, fun _ _ _ _ _ _ y => y⟩
end
def iKeysX (P : Program) (w : World) (td : TE) : TI := fun σ H R => td σ H fun x H1 => ∃ a es ep kvs, x = .ref a ∧ DXe P w kvs a es ep H1 ∧ R (ItX P w kvs a es ep) H1
def iValsX (P : Program) (w : World) (td : TE) : TI := fun σ H R => td σ H fun x H1 => ∃ a es ep kvs, x = .ref a ∧ DXe P w kvs a es ep H1 ∧ R (ItXv P w kvs a es ep) H1
section
variable {X : Cx} {tg e : Expr} {td : TE} {apos cpos : Pos}
theorem pi_keysX (he : PE X e td) : PI X tg e (iKeysX X.prog X.w td) := by
  refine ⟨fun pins s σ H R I h => ?_⟩
  refine thn (he.run pins s σ H _ I h) fun u s1 ⟨x, H1, I1, rx, a, es, ep, kvs, ex, hd, q⟩ => ?_
  subst ex
  cases rx
  obtain ⟨raw, hsz, hsm, _⟩ := hd.raw I1
  refine wpAny_pyIter_dict_raw hsm raw (pi_one (tk := s1.toks) I1 _ (turn_keysX _) ⟨_, Heap.get?_push_size _ rfl, rfl, ?_⟩ q)
  rw [hsz] <;> rfl
theorem pi_valuesX (he : PE X e td) (hbase : attributeBase e "values" X.env (eval e X.env) = eval e X.env := by rfl) (hline : (apos.endLine == cpos.line) = true := by rfl) :
    PI X tg (.Call (.Attribute e "values" apos) [] [] cpos) (iValsX X.prog X.w td) := by
  refine ⟨fun pins s σ H R I h => ?_⟩
  refine wpAny_Call_method (T := "dict") (id := "dict.values") hbase rfl hline PySem.F.plainAttrs_dict PySem.F.slot_dict_values PySem.F.type_dict_values (thn (he.run pins s σ H _ I h) fun u s1 ⟨x, H1, I1, rx, a, es, ep, kvs, ex, hd, q⟩ => ?_)
  subst ex
  cases rx
  obtain ⟨raw, hsz, hsm, _⟩ := hd.raw I1
  have ty := dx_type I1 (show RelV (.ref a) (.ref a) from rfl) ⟨kvs, hd.dx⟩
  refine ⟨ty.1, ty.2, ?_⟩
  have I2 : Inv X pins σ H1 { s1 with heap := s1.heap.push { cls := .type "dict_values", data := .fields #[.ref a] } } := I1.kept (t' := s1.toks) fun b ob q => Heap.get?_push_of_some _ q
  refine method_meetsIn PySem.F.slot_dict_values PySem.F.entry_dict_values rfl (PySem.evalArgs_none ⟨rfl, ty.1, PySem.F.args_dict_values_1 _, _, meets_dict_values_raw a hsm, ⟨es, ep, raw⟩, ?_⟩)
  refine wpAny_pyIter_values_raw (d := a) ⟨_, Heap.get?_push_size _ rfl, rfl, rfl⟩ (raw.at fun o e => Heap.get?_push_of_some _ e) (pi_one (tk := s1.toks) I2 _ (turn_valsX _) ⟨_, Heap.get?_push_size _ rfl, rfl, ?_⟩ q)
  rw [hsz] <;> rfl
end
end Lk
end

section
set_option Elab.async false
set_option linter.all false
set_option maxRecDepth 100000
/-! Data compared, sorted, least; lists and tuples of a dict's keys. -/
namespace Lk
open PySem PySem.Spec L2
open PyProof.Rows hiding St
open Evl (Ex)

mutual
theorem data_depth : ∀ d : D, (NestedKey.data d).depth = NestedKey.depth d
  | .none => rfl
  | .num _ => rfl
  | .text _ => rfl
  | .tup ds => by
    rw [NestedKey.data, PyData.depth, NestedKey.depth, datas_depth ds]
theorem datas_depth : ∀ ds : List D, PyData.depthAll (NestedKey.datas ds) = NestedKey.depthAll ds
  | [] => rfl
  | d :: ds => by
    rw [NestedKey.datas, PyData.depthAll, NestedKey.depthAll, data_depth d, datas_depth ds]
end
mutual
theorem data_eqv : ∀ d e : D, PyData.eqv (NestedKey.data d) (NestedKey.data e) = NestedKey.beq d e
  | .none, .none => rfl
  | .num _, .num _ => by simp only [NestedKey.data, PyData.eqv, NestedKey.beq]; rfl
  | .text _, .text _ => by simp only [NestedKey.data, PyData.eqv, NestedKey.beq]; rfl
  | .tup ds, .tup es => by rw [NestedKey.data, NestedKey.data, PyData.eqv, NestedKey.beq, datas_eqv ds es]
  | .none, .num _ => rfl
  | .none, .text _ => rfl
  | .none, .tup _ => rfl
  | .num _, .none => rfl
  | .num _, .text _ => rfl
  | .num _, .tup _ => rfl
  | .text _, .none => rfl
  | .text _, .num _ => rfl
  | .text _, .tup _ => rfl
  | .tup _, .none => rfl
  | .tup _, .num _ => rfl
  | .tup _, .text _ => rfl
theorem datas_eqv : ∀ ds es : List D, PyData.eqvAll (NestedKey.datas ds) (NestedKey.datas es) = NestedKey.beqAll ds es
  | [], [] => rfl
  | d :: ds, e :: es => by rw [NestedKey.datas, NestedKey.datas, PyData.eqvAll, NestedKey.beqAll, data_eqv d e, datas_eqv ds es]
  | [], _ :: _ => rfl
  | _ :: _, [] => rfl
end
theorem data_eq (d e : D) : PyData.eqv (NestedKey.data d) (NestedKey.data e) = decide (d = e) := by rw [data_eqv, NestedKey.decide_eq]
theorem datas_map : ∀ ds : List D, NestedKey.datas ds = ds.map NestedKey.data
  | [] => rfl
  | d :: ds => by rw [NestedKey.datas, datas_map ds]; rfl

section
variable {X : Cx} {pins : List (Addr × Obj)} {σ : L2.St} {H : Hp} {s : Shared}
mutual
theorem Im.reads (I : Inv X pins σ H s) : ∀ (d : D) (v : V) (u : Value), Im d v H → RelV v u → Reads s.heap u d.data []
  | .none, v, u, h, r => by cases im_none.mp h; cases r; exact .none
  | .num i, v, u, h, r => by cases im_num.mp h; obtain ⟨t, rfl⟩ := r; exact .int i t
  | .text x, v, u, h, r => by cases im_text.mp h; obtain ⟨t, rfl⟩ := r; exact .str x t
  | .tup ds, v, u, h, r => by
    obtain ⟨p, vs, rfl, hp, ha⟩ := im_tup.mp h
    cases r
    obtain ⟨its, rv, ⟨o, ho, hc, n, hd⟩, _⟩ := I.tuple (SqT.of hp)
    exact .tuple ho hc hd (by simpa using ImAll.reads I ds vs its ha rv)
theorem ImAll.reads (I : Inv X pins σ H s) : ∀ (ds : List D) (vs : List V) (us : List Value), ImAll ds vs H → Vals vs us → ReadsAll s.heap us (NestedKey.datas ds) []
  | [], vs, us, h, r => by cases imAll_nil.mp h; cases r; exact .nil
  | d :: ds, vs, us, h, r => by
    obtain ⟨v, t, rfl, hv, ht⟩ := imAll_cons.mp h
    cases r with
    | cons r1 r2 => exact .cons (as := []) (bs := []) (Im.reads I d v _ hv r1) (ImAll.reads I ds t _ ht r2)
end
mutual
theorem im_dp {K : PySem.W.Frag} : ∀ (d : D) (v : V), Im d v H → Dp K H v d.data
  | .none, v, h => by cases im_none.mp h; exact .non
  | .num i, v, h => by cases im_num.mp h; exact .int i
  | .text x, v, h => by cases im_text.mp h; exact .str x
  | .tup ds, v, h => by
    obtain ⟨p, vs, rfl, hp, ha⟩ := im_tup.mp h
    exact .tup (SqT.of hp) (im_dps ds vs ha)
theorem im_dps {K : PySem.W.Frag} : ∀ (ds : List D) (vs : List V), ImAll ds vs H → DpAll K H vs (NestedKey.datas ds)
  | [], vs, h => by cases imAll_nil.mp h; exact .nil
  | d :: ds, vs, h => by
    obtain ⟨v, t, rfl, hv, ht⟩ := imAll_cons.mp h
    exact .cons (im_dp d v hv) (im_dps ds t ht)
end
end

/-- a datum that == and < can be asked of -/
def fine (d : D) : Bool := SeqAt.shaped d.data
section
variable {X : Cx}
def rEqI : R2 := fun x y H Q => ∃ d e, Im d x H ∧ Im e y H ∧ fine d = true ∧ fine e = true ∧ Q (.bl (decide (d = e))) H
def rNeI : R2 := fun x y H Q => ∃ d e, Im d x H ∧ Im e y H ∧ fine d = true ∧ fine e = true ∧ Q (.bl (!decide (d = e))) H
theorem op_eqI (hu : X.A.units + 64 < cLine) : OpR X (compareOp .Eq) rEqI := by
  intro pins s σ H x y v u Q I rx ry h
  obtain ⟨d, e, hd, he, fd, fe, q⟩ := h
  exact op_eqD hu pins s σ H x y v u Q I rx ry ⟨d.data, e.data, im_dp d x hd, im_dp e y he, fd, fe, by rw [data_eq]; exact q⟩
theorem op_neI (hu : X.A.units + 64 < cLine) : OpR X (compareOp .NotEq) rNeI := by
  intro pins s σ H x y v u Q I rx ry h
  obtain ⟨d, e, hd, he, fd, fe, q⟩ := h
  exact op_neD hu pins s σ H x y v u Q I rx ry ⟨d.data, e.data, im_dp d x hd, im_dp e y he, fd, fe, by rw [data_eq]; exact q⟩
/-- x in xs, a list of data -/
def rInL (neg : Bool) : R2 := fun x y H Q => ∃ d ds a vs, Im d x H ∧ y = .ref a ∧ H a = some (.lst vs) ∧ ImAll ds vs H ∧ fine d = true ∧ SeqAt.shaped (.list (NestedKey.datas ds)) = true ∧ Q (.bl (if neg then !decide (d ∈ ds) else decide (d ∈ ds))) H
theorem any_mem (d : D) (ds : List D) : ((NestedKey.datas ds).any fun z => PyData.eqv z d.data) = decide (d ∈ ds) := by
  rw [datas_map, List.any_map]
  induction ds with
  | nil => rfl
  | cons e r ih =>
    rw [List.any_cons, ih]
    show (PyData.eqv e.data d.data || decide (d ∈ r)) = _
    rw [data_eq]
    by_cases h1 : e = d
    · subst h1; simp
    · have : ¬ d = e := fun z => h1 z.symm
      simp [h1, this]
theorem op_inL (hu : X.A.units + 65 < cLine) : OpR X (compareOp .In) (rInL false) := by
  intro pins s σ H x y v u Q I rx ry h
  obtain ⟨d, ds, a, vs, hd, rfl, ha, hds, fd, fl, q⟩ := h
  exact op_inD hu pins s σ H x _ v u Q I rx ry ⟨d.data, NestedKey.datas ds, im_dp d x hd, .lst (SqL.of ha) (im_dps ds vs hds), fd, fl, by rw [any_mem]; exact q⟩
theorem op_notInL (hu : X.A.units + 65 < cLine) : OpR X (compareOp .NotIn) (rInL true) := by
  intro pins s σ H x y v u Q I rx ry h
  obtain ⟨d, ds, a, vs, hd, rfl, ha, hds, fd, fl, q⟩ := h
  exact op_notInD hu pins s σ H x _ v u Q I rx ry ⟨d.data, NestedKey.datas ds, im_dp d x hd, .lst (SqL.of ha) (im_dps ds vs hds), fd, fl, by rw [any_mem]; exact q⟩
/-- xs.extend(t), t a tuple -/
def rExtT (K : PySem.W.Frag) : V → List V → Hp → VK → Prop := fun x vs H Q => ∃ l b xs zs, x = .ref l ∧ vs = [.ref b] ∧ H l = some (.lst xs) ∧ SqT K H b zs ∧ xs.length + zs.length ≤ sizeLine ∧ Q .non (upd H l (.lst (xs ++ zs)))
theorem ext_tup (l : Addr) (items : Array Value) (n : Nat) (b : Addr) (items2 : Array Value) (n2 : Nat) (od : Option Addr) (sl : Array (Option Value)) (hs0 : ¬(!items.isEmpty && Builtin.List.listTooLong (items.size + items2.size)) = true) (hs1 : items.size ≤ sizeLine) (hs2 : items.size + items2.size ≤ sizeLine + 1) :
    Meets (Builtin.«list.extend» ⟨[.ref l, .ref b], []⟩) (fun _ R s => s.heap.get? l = some { cls := .type "list", data := .seq items n } ∧ s.heap.get? b = some { cls := .type "tuple", dict := od, data := .seq items2 n2, slots := sl } ∧
      R (.ok (.ret Value.none)) { s with heap := s.heap.update l (Obj.mapSeq fun x => x ++ items2), toks := s.toks }) :=
  .of_wp fun prog w A R s h => by
    obtain ⟨hp, g, d, tk, os⟩ := s
    obtain ⟨hl, hb, h⟩ := h
    have hz' : (items ++ items2).size ≤ sizeLine + 1 := by rw [Array.size_append]; exact hs2
    wp_walk using (wpAny_updateSeq hl rfl (hz := hs1) (_hz' := hz')), wpAny_loadPart' hl, wpAny_loadPart' hb
    exact ⟨_, rfl, h⟩
theorem mt_extT : MtR X "list.extend" (rExtT X.K) := by
  intro pins s σ H x vs v us Q I rx rv h
  obtain ⟨l, b, xs, zs, rfl, rfl, hH, hB, hz, q⟩ := h
  cases rx
  obtain ⟨u, rfl, ru⟩ := rv.one
  cases ru
  obtain ⟨z, its, n, r, hl, e⟩ := I.lstM hH
  obtain ⟨its2, r2, ⟨o2, e2, c2, n2, d2⟩, _⟩ := I.tuple hB
  have hl2 := r2.length
  obtain ⟨cl, od, dd, sl⟩ := o2
  have c2' : cl = .type "tuple" := c2
  have d2' : dd = .seq its2.toArray n2 := d2
  subst c2' d2'
  have hsz : its.toArray.size + its2.toArray.size ≤ sizeLine := by rw [List.size_toArray, List.size_toArray]; omega
  have hlong : ¬ (!its.toArray.isEmpty && Builtin.List.listTooLong (its.toArray.size + its2.toArray.size)) = true := by
    rw [notLongL hsz, Bool.and_false]
    exact Bool.false_ne_true
  refine call_meets PySem.F.slot_list_extend ⟨_, e, rfl⟩ PySem.F.entry_list_extend (PySem.F.args_list_extend_2 _ _)
    (ext_tup l its.toArray n b its2.toArray n2 od sl hlong (by rw [List.size_toArray]; omega) (by omega)) ⟨e, e2, ?_⟩
  refine ⟨.non, _, I.lset (its' := its ++ its2) hH e (by simp) (r.append r2) ?_, rfl, q⟩
  rw [List.length_append]
  omega
end
end Lk
end

section
set_option Elab.async false
set_option linter.all false
set_option maxRecDepth 100000
set_option maxHeartbeats 1000000
/-! list, tuple, sorted of a dict's keys; sorted of things; the least of data. -/
namespace Lk
open PySem PySem.Spec L2
open PyProof.Rows hiding St
open Evl (Ex)
open PySem.W (KdlSrc EachIs)

/-! ### the library's sources: list, tuple, sorted -/
section
variable {prog : Program} {w : World} {A : Around} {E : Value → Shared → Prop} {s : Shared} {T : String} {r d : Addr} {n : Nat} {P : Nat → Value → Prop} {OK : Heap → Prop}
theorem code_tuple_src {Q₁ : Value → Shared → Prop} (K : KdlSrc prog w T r d n P OK) (hh : A.handled = none) (hok : OK s.heap) (hn : n ≤ sizeLine)
    (h : ∀ (h' : Heap) (tk : Nat) (acc : Array Value), (∀ b o, s.heap.get? b = some o → h'.get? b = some o) → ItemsOf P acc n →
      Q₁ (.ref h'.objs.size) { s with heap := h'.push { cls := .type "tuple", data := .seq acc }, toks := tk }) :
    codeAny (model prog w) A (.call (.builtin "tuple.__new__") ⟨[.type "tuple", .ref r], []⟩) (wants Q₁ E) s := by
  refine codeAny_of_tree ?_
  show wpAny _ A.in1 (do checkBuiltinCall "tuple.__new__" ⟨[.type "tuple", .ref r], []⟩; again (.builtin "tuple.__new__" ⟨[.type "tuple", .ref r], []⟩)) _ _ s
  refine wpAny_bind (wpAny_of_eq (PySem.F.newCall_tuple_1 _) (wpAny_pure ⟨plainId_quiet PySem.F.plain_tuple_new _, codeAny_builtin PySem.F.entry_tuple_new ?_⟩))
  rw [Around.under_plainId PySem.F.plain_tuple_new _]
  have hsub := PySem.sub_tuple_self
  have hinit := PySem.init_tuple_lookup
  have hmh := PySem.madeHere_tuple
  have hTI : s.TypeIs (.ref r) T := K.type s hok
  have hh1 : A.in1.handled = none := hh
  have h2 := K.notList
  have h3 := K.notTuple
  wp_walk using wpAny_typeOf hTI, PySem.W.kdu_collect (A := A.in1) K hh1 hok hn
  intro h' tk acc hk hacc
  show wpAny _ _ (Builtin.Tuple.tupleExact acc.toList.toArray >>= fun v => ret v) _ _ _
  have e : acc.toList.toArray = acc := by simp
  rw [e]
  unfold Builtin.Tuple.tupleExact
  exact wpAny_bind (wpAny_newObj_type (wpAny_pure (h h' tk acc hk hacc)) (by show acc.size ≤ sizeLine; rw [hacc.1]; exact hn))
theorem call_tuple_src {Q : Value → Shared → Prop} (K : KdlSrc prog w T r d n P OK) (hh : A.handled = none) (hok : OK s.heap) (hn : n ≤ sizeLine)
    (hQ : ∀ (h' : Heap) (tk : Nat) (acc : Array Value), (∀ b o, s.heap.get? b = some o → h'.get? b = some o) → ItemsOf P acc n →
      Q (.ref h'.objs.size) { s with heap := h'.push { cls := .type "tuple", data := .seq acc }, toks := tk }) :
    wpAny (model prog w) A (call (.type "tuple") [.ref r]) Q E s :=
  callType_codes (Q₁ := fun obj s₁ => s₁.TypeIs obj "tuple" ∧ Q obj s₁) PySem.F.called_tuple (PySem.F.typeCall_tuple_1 _) PySem.F.entry_object_init
    (code_tuple_src (A := A.in1) K hh hok hn fun h' tk acc hk hacc => ⟨⟨_, Heap.get?_push_size _ rfl, rfl⟩, hQ h' tk acc hk hacc⟩) fun obj s₁ h₁ =>
      ⟨h₁.1, PySem.F.args_object_init_2 obj _, object_init_meets PySem.F.called_tuple.init.lookup PySem.F.called_tuple.made (by decide) prog w A.in1 _ s₁ ⟨h₁.1, rfl, h₁.2⟩⟩
theorem call_sorted_src {Q : Value → Shared → Prop} (K : KdlSrc prog w T r d n P OK) (hh : A.handled = none) (hok : OK s.heap) (hn : n ≤ sizeLine)
    (h : ∀ (h' : Heap) (tk : Nat) (acc : List Value), (∀ b o, s.heap.get? b = some o → h'.get? b = some o) → acc.length = n → (∀ j v, acc[j]? = some v → P j v) →
      wpAny (model prog w) A.in1 (call (.builtin "list.sort") [.ref h'.objs.size]) (fun _ s' => Q (.ref h'.objs.size) s') E { s with heap := h'.push { cls := .type "list", data := .seq acc.toArray }, toks := tk }) :
    wpAny (model prog w) A (call (.builtin "sorted") [.ref r]) Q E s := by
  refine PySem.Calls.call_function_entry kind_sorted plain_sorted entry_sorted (args_sorted1 _) ?_
  unfold Builtin.«sorted»
  refine wpAny_bind (m := checkCount "sorted" 1 1 _) (wpAny_pure (wpAny_bind (PySem.W.kdu_collect (A := A.in1) K hh hok hn fun h' tk acc hk hacc => ?_)))
  have hl : acc.toList.length = n := by rw [Array.length_toList]; exact hacc.1
  refine wpAny_bind (wpAny_newList ?_ (by rw [hl]; exact hn))
  refine wpAny_bind (wpAny_holding (wpAny_mono (h h' tk acc.toList hk hl fun j v e => hacc.2 j v (by rw [← Array.getElem?_toList]; exact e)) (fun _ s' x => wpAny_pure ⟨_, rfl, x⟩) fun _ _ e => e))
end

/-! ### things, in order -/
abbrev Thg := Nat × Nat
def encT (t : Thg) : D := .tup [.num (t.1 : Int), .num (t.2 : Int)]
def thLe (p q : Thg) : Bool := decide (p.1 < q.1 ∨ (p.1 = q.1 ∧ p.2 ≤ q.2))
def srt (ts : List Thg) : List Thg := ts.mergeSort thLe
theorem encT_inj {p q : Thg} (h : encT p = encT q) : p = q := by
  unfold encT at h
  injection h with h
  injection h with h1 h2
  injection h1 with h1
  injection h2 with h2 _
  injection h2 with h2
  exact Prod.ext (Int.ofNat.inj h1) (Int.ofNat.inj h2)
theorem encT_isT (t : Thg) : isT (encT t) = true := rfl
theorem encT_depth (t : Thg) : (encT t).depth = 1 := rfl
theorem encT_fine (t : Thg) : fine (encT t) = true := rfl
theorem encT_data (t : Thg) : (encT t).data = .tuple [.int (t.1 : Int), .int (t.2 : Int)] := rfl
theorem thLe_data : PySem.W.dataLe false (fun t : Thg => (encT t).data) = thLe := by
  have e : (fun t : Thg => (encT t).data) = fun t : Thg => .tuple [.int (t.1 : Int), .int (t.2 : Int)] := rfl
  rw [e, PySem.W.dataLe_ii (fun t : Thg => (t.1 : Int)) (fun t : Thg => (t.2 : Int))]
  funext p q
  unfold thLe
  apply decide_eq_decide.mpr
  constructor
  · rintro (h | ⟨h1, h2⟩)
    · exact .inl (by omega)
    · exact .inr ⟨by omega, by omega⟩
  · rintro (h | ⟨h1, h2⟩)
    · exact .inl (by omega)
    · exact .inr ⟨by omega, by omega⟩
theorem things_alike (ts : List Thg) : PySem.W.AllAlike (ts.map fun t => (encT t).data) := PySem.W.AllAlike.of (enc := fun t : Thg => (encT t).data) fun _ _ => rfl
theorem none_of_keeps {h g : Heap} {a : Addr} (k : ∀ b o, h.get? b = some o → g.get? b = some o) (ha : g.objs.size ≤ a) : h.get? a = none := by
  cases e : h.get? a with
  | none => rfl
  | some o => exact absurd (Heap.lt_size (k _ _ e)) (Nat.not_lt.mpr ha)
theorem stands {P : Program} {w : World} {h : Heap} {a : Addr} : ∀ {o : HO}, ObjOk P w H h a o → ∃ u, h.get? a = some u
  | .lst _, ⟨_, _, _, _, e⟩ => ⟨_, e⟩
  | .tup _, ⟨_, _, _, _, e, _⟩ => ⟨_, e⟩
  | .dK _, ⟨_, _, _, _, _, _, _, e, _⟩ => ⟨_, e⟩
  | .dT _, ⟨_, _, _, _, _, _, _, e, _⟩ => ⟨_, e⟩
  | .set _ _, ⟨_, _, _, _, e, _⟩ => ⟨_, e⟩
  | .ins _ _ _, ⟨_, _, _, e, _⟩ => ⟨_, e⟩
  | .own _, e => e
  | .xd _, ⟨_, ⟨_, _, _, e, _⟩, _⟩ => ⟨_, e⟩
  | .rng _ _, ⟨_, _, _, e⟩ => ⟨_, e⟩
  | .frz _ _, ⟨e, _⟩ => ⟨_, e⟩
  | .tbl _, e => ⟨_, e⟩
  | .met _ _, e => ⟨_, e⟩
  | .ext _, ⟨_, e, _⟩ => e
theorem H_none (I : Inv X pins σ H s) {a : Addr} (ha : s.heap.get? a = none) : H a = none := by
  cases e : H a with
  | none => rfl
  | some o =>
    obtain ⟨u, hu⟩ := stands (I.hok a o e)
    rw [ha] at hu
    cases hu
/-- a new object at an address where nothing stood -/
theorem laid2 {h' : Heap} {a : Addr} {o : HO} {t' : Nat} (I : Inv X pins σ H s) (k : ∀ b u, s.heap.get? b = some u → h'.get? b = some u) (ha : s.heap.get? a = none) (new : ObjOk X.prog X.w (upd H a o) h' a o) :
    Inv X pins σ (upd H a o) { s with heap := h', toks := t' } := by
  have hn : H a = none := H_none I ha
  have ne : ∀ {b : Addr} {u : Obj}, s.heap.get? b = some u → b ≠ a := fun {b u} q z => by subst z; rw [ha] at q; cases q
  refine I.un ⟨fun b u q _ _ _ => k b u q, fun b u q _ _ _ => ⟨u.slots, k b u q⟩, fun b u q n _ => by rw [upd_ne (ne q)]; exact n, fun b u q _ => ⟨u, k b u q⟩, fun b xs q => by rw [upd_ne (ne_of_none q hn)]; exact q,
    fun b u xs q => by rw [upd_ne (ne_of_none q hn)]; exact q, fun b ps q => ⟨#[], by rw [upd_ne (ne_of_none q hn)]; simpa using q⟩⟩ ?_
  intro b u e
  by_cases hb : b = a
  · subst hb; rw [upd_same] at e; cases e; exact new
  · rw [upd_ne hb] at e
    exact (I.hok b u e).stay (fun c v _ q => k c v q) (fun c q => by rw [upd_ne (ne_of_none q hn)]; exact q) fun c xs q => by rw [upd_ne (ne_of_none q hn)]; exact q
theorem things_sortable (ts : List Thg) : PySem.W.Sortable (ts.map fun t => (encT t).data) := PySem.W.Sortable.tuples (enc := fun t : Thg => (encT t).data) fun _ => ⟨_, _, rfl⟩

section
variable {X : Cx} {pins : List (Addr × Obj)} {σ : L2.St} {H : Hp} {s : Shared}
/-- values that stand for data -/
def Stands (H : Hp) (u : Value) (t : Thg) : Prop := ∃ v, RelV v u ∧ Im (encT t) v H
theorem stands_all : ∀ {us : List Value} {ts : List Thg} {vs : List V}, Vals vs us → ImAll (ts.map encT) vs H → EachIs (Stands H) us ts
  | _, [], _, r, h => by cases imAll_nil.mp h; cases r; exact .nil
  | _, t :: ts, _, r, h => by
    obtain ⟨v, q, rfl, hv, hq⟩ := imAll_cons.mp h
    cases r with
    | cons r1 r2 => exact .cons ⟨v, r1, hv⟩ (stands_all r2 hq)
theorem stands_back : ∀ {us : List Value} {ts : List Thg}, EachIs (Stands H) us ts → ∃ vs, Vals vs us ∧ ImAll (ts.map encT) vs H
  | _, _, .nil => ⟨[], .nil, imAll_nil.mpr rfl⟩
  | _, _, .cons ⟨v, r, hv⟩ t => by
    obtain ⟨vs, rs, hs⟩ := stands_back t
    exact ⟨v :: vs, .cons r rs, imAll_cons.mpr ⟨v, vs, rfl, hv, hs⟩⟩
theorem stands_reads (I : Inv X pins σ H s) {h : Heap} (k : ∀ b o, s.heap.get? b = some o → h.get? b = some o) {us : List Value} {ts : List Thg} (e : EachIs (Stands H) us ts) :
    EachIs (fun v b => Reads h v ((fun t => (encT t).data) b) []) us ts :=
  e.mono fun u t ⟨v, r, hv⟩ => PyProof.Rows.Reads.keeps k (Im.reads I _ v u hv r)
theorem things_sort {K : Hp} (I : Inv X pins σ H s) {h : Heap} {tk : Nat} {A : Around} {E : Value → Shared → Prop} {us : List Value} {ts : List Thg} {Q : Value → Shared → Prop} (k : ∀ b o, s.heap.get? b = some o → h.get? b = some o) (ex : Ex K H) (e : EachIs (Stands K) us ts) (hL : ts.length ≤ sizeLine) (hu : A.units + 64 < cLine)
    (q : ∀ h' vs, (∀ b o, s.heap.get? b = some o → h'.get? b = some o) → ImAll ((srt ts).map encT) vs K → Inv X pins σ (upd H h.objs.size (.lst vs)) { s with heap := h', toks := tk } → Q .none { s with heap := h', toks := tk }) :
    wpAny (model X.prog X.w) A (call (.builtin "list.sort") [.ref h.objs.size]) Q E { s with heap := h.push { cls := .type "list", data := .seq us.toArray }, toks := tk } := by
  have ho : (h.push { cls := .type "list", data := .seq us.toArray }).get? h.objs.size = some (seqObj "list" us.toArray 0) := Heap.get?_push_size _ rfl
  have k2 : ∀ b o, s.heap.get? b = some o → (h.push { cls := .type "list", data := .seq us.toArray }).get? b = some o := fun b o z => Heap.get?_push_of_some _ (k b o z)
  have hlen : us.length = ts.length := e.length
  refine PySem.W.list_sort_data (R := Stands K) (enc := fun t : Thg => (encT t).data) ho e ((stands_reads I k2 (e.mono fun _ _ ⟨v, r, hv⟩ => ⟨v, r, hv.mono ex⟩)).mono fun _ _ r => ⟨[], r, by simp⟩) (things_alike ts) (things_sortable ts) hL (fun b _ => by show A.units + 1 + 1 < cLine; omega) fun out hl eo => ?_
  rw [thLe_data] at eo
  obtain ⟨vs, rv, hv⟩ := stands_back eo
  have kk : ∀ b o, s.heap.get? b = some o → (sortedHeap (h.push { cls := .type "list", data := .seq us.toArray }) h.objs.size us out.toArray).get? b = some o := fun b o z => by
    have z1 := k b o z
    rw [sortedHeap_old (Nat.ne_of_lt (Heap.lt_size z1)) (Heap.lt_size (Heap.get?_push_of_some _ z1))]
    exact Heap.get?_push_of_some _ z1
  refine q _ vs kk hv (laid2 (a := h.objs.size) (o := .lst vs) (t' := tk) I kk (none_of_keeps k (Nat.le_refl _)) ?_)
  obtain ⟨e1, he1⟩ := sortedHeap_at (h := h.push { cls := .type "list", data := .seq us.toArray }) (a := h.objs.size) (vs := us) (n := 0) (out := out.toArray) ho
  refine ⟨?_, out, e1, rv, he1⟩
  rw [rv.length, hl]
  exact hL
end
end Lk
end

section
set_option Elab.async false
set_option linter.all false
set_option maxRecDepth 100000
set_option maxHeartbeats 1000000
/-! How deep data are; that they may be compared. -/
namespace Lk
open PySem PySem.Spec L2
open PyProof.Rows hiding St
/-- data of depth at most n that may be compared -/
def Fn (n : Nat) (d : D) : Prop := d.data.canLay0 = true ∧ d.depth ≤ n
theorem Fn.num {n : Nat} (i : Int) : Fn n (.num i) := ⟨rfl, Nat.zero_le _⟩
theorem Fn.none {n : Nat} : Fn n .none := ⟨rfl, Nat.zero_le _⟩
theorem Fn.text {n : Nat} {x : Str} (h : PyData.canLay0 (.str x) = true := by rfl) : Fn n (.text x) := ⟨h, Nat.zero_le _⟩
theorem depthAll_le {n : Nat} : ∀ {ds : List D}, (∀ d ∈ ds, d.depth ≤ n) → NestedKey.depthAll ds ≤ n
  | [], _ => Nat.zero_le _
  | d :: ds, h => by
    rw [NestedKey.depthAll]
    exact Nat.max_le.mpr ⟨h d (List.mem_cons_self ..), depthAll_le fun e he => h e (List.mem_cons_of_mem _ he)⟩
theorem can_all : ∀ {ds : List D}, (∀ d ∈ ds, d.data.canLay0 = true) → PyData.canLayAll0 (NestedKey.datas ds) = true
  | [], _ => rfl
  | d :: ds, h => by
    rw [NestedKey.datas, PyData.canLayAll0, h d (List.mem_cons_self ..), can_all fun e he => h e (List.mem_cons_of_mem _ he)]; rfl
theorem Fn.tup {n : Nat} {ds : List D} (h : ∀ d ∈ ds, Fn n d) : Fn (n + 1) (.tup ds) := by
  refine ⟨?_, ?_⟩
  · show PyData.canLay0 (NestedKey.data (.tup ds)) = true
    rw [NestedKey.data, PyData.canLay0]
    exact can_all fun d hd => (h d hd).1
  · show NestedKey.depth (.tup ds) ≤ _
    rw [NestedKey.depth]
    exact Nat.succ_le_succ (depthAll_le fun d hd => (h d hd).2)
theorem Fn.mono {n m : Nat} {d : D} (h : Fn n d) (hm : n ≤ m) : Fn m d := ⟨h.1, Nat.le_trans h.2 hm⟩
theorem Fn.fine {n : Nat} {d : D} (h : Fn n d) (hn : n ≤ 64) : fine d = true := by
  unfold Lk.fine SeqAt.shaped
  rw [h.1, Bool.true_and, decide_eq_true_eq, data_depth]
  exact Nat.le_trans h.2 hn
theorem shaped_list {n : Nat} {ds : List D} (h : ∀ d ∈ ds, Fn n d) (hn : n ≤ 60) : SeqAt.shaped (.list (NestedKey.datas ds)) = true := by
  have := (Fn.tup h).fine (by omega)
  unfold Lk.fine SeqAt.shaped at this
  unfold SeqAt.shaped
  rw [NestedKey.data, PyData.canLay0, PyData.depth] at this
  rw [PyData.canLay0, PyData.depth]
  exact this
theorem all_cons {n : Nat} {d : D} {ds : List D} (h : Fn n d) (t : ∀ e ∈ ds, Fn n e) : ∀ e ∈ d :: ds, Fn n e := fun e he => by
  rcases List.mem_cons.mp he with z | z
  · rw [z]; exact h
  · exact t e z
theorem all_nil {n : Nat} : ∀ e ∈ ([] : List D), Fn n e := fun e he => nomatch he
end Lk
end

section
set_option Elab.async false
set_option linter.all false
set_option maxRecDepth 100000
set_option maxHeartbeats 1000000
/-! Judgements over the layer: what an expression gives, what statements leave, by predicates of values; own mutable objects are hidden from the view. -/
namespace Lk
open PySem PySem.Spec L2
open PyProof.Rows hiding St
open Evl (Ex)

/-! ### predicates of values -/
structure VP where
  p : V → Hp → Prop
  mono : ∀ {v : V} {H H' : Hp}, Ex H H' → p v H → p v H'
def vD (d : D) : VP := ⟨Im d, fun e h => Im.mono h e⟩
def vB (b : Bool) : VP := ⟨fun v _ => v = .bl b, fun _ h => h⟩
def vE (x : V) : VP := ⟨fun v _ => v = x, fun _ h => h⟩
def vEx {α : Sort _} (f : α → VP) : VP := ⟨fun v H => ∃ a, (f a).p v H, fun e ⟨a, h⟩ => ⟨a, (f a).mono e h⟩⟩
def vAnd (c : Prop) (P : VP) : VP := ⟨fun v H => c ∧ P.p v H, fun e h => ⟨h.1, P.mono e h.2⟩⟩
abbrev vZ (i : Int) : VP := vD (.num i)
abbrev vN (n : Nat) : VP := vD (.num (n : Int))
abbrev vNone : VP := vD .none
theorem vD_num {i : Int} {v : V} {H : Hp} : (vD (.num i)).p v H ↔ v = .int i := im_num (H := H)
theorem vD_text {x : Str} {v : V} {H : Hp} : (vD (.text x)).p v H ↔ v = .str x := im_text (H := H)
theorem vD_none {v : V} {H : Hp} : (vD .none).p v H ↔ v = .non := im_none (H := H)

inductive AllP : List VP → List V → Hp → Prop where
  | nil {H : Hp} : AllP [] [] H
  | cons {P : VP} {v : V} {ps : List VP} {vs : List V} {H : Hp} (h : P.p v H) (t : AllP ps vs H) : AllP (P :: ps) (v :: vs) H
namespace AllP
variable {ps qs : List VP} {vs ws : List V} {H H' : Hp}
theorem mono (e : Ex H H') (h : AllP ps vs H) : AllP ps vs H' := by
  induction h with
  | nil => exact .nil
  | @cons P _ _ _ _ h t ih => exact .cons (P.mono e h) (ih e)
theorem length (h : AllP ps vs H) : vs.length = ps.length := by
  induction h with
  | nil => rfl
  | cons h t ih => rw [List.length_cons, List.length_cons, ih]
theorem append (h : AllP ps vs H) (h' : AllP qs ws H) : AllP (ps ++ qs) (vs ++ ws) H := by
  induction h with
  | nil => exact h'
  | cons h t ih => exact .cons h (ih h')
theorem get (h : AllP ps vs H) {i : Nat} {P : VP} (e : ps[i]? = some P) : ∃ v, vs[i]? = some v ∧ P.p v H := by
  induction h generalizing i with
  | nil => cases e
  | cons h t ih =>
    cases i with
    | zero => cases e; exact ⟨_, rfl, h⟩
    | succ j => exact ih e
theorem back (h : AllP ps vs H) {i : Nat} {v : V} (e : vs[i]? = some v) : ∃ P, ps[i]? = some P ∧ P.p v H := by
  induction h generalizing i with
  | nil => cases e
  | cons h t ih =>
    cases i with
    | zero => cases e; exact ⟨_, rfl, h⟩
    | succ j => exact ih e
theorem drop (n : Nat) (h : AllP ps vs H) : AllP (ps.drop n) (vs.drop n) H := by
  induction h generalizing n with
  | nil => simpa using AllP.nil
  | cons h t ih =>
    cases n with
    | zero => exact .cons h t
    | succ m => exact ih m
theorem take (n : Nat) (h : AllP ps vs H) : AllP (ps.take n) (vs.take n) H := by
  induction h generalizing n with
  | nil => simpa using AllP.nil
  | cons h t ih =>
    cases n with
    | zero => exact .nil
    | succ m => exact .cons h (ih m)
theorem split (h : AllP (ps ++ qs) ws H) : ∃ us vs, ws = us ++ vs ∧ AllP ps us H ∧ AllP qs vs H := by
  induction ps generalizing ws with
  | nil => exact ⟨[], ws, rfl, .nil, h⟩
  | cons P l ih =>
    cases h with
    | cons h t =>
      obtain ⟨us, vs, rfl, a, b⟩ := ih t
      exact ⟨_ :: us, vs, rfl, .cons h a, b⟩
end AllP
theorem allP_D {H : Hp} : ∀ {ds : List D} {vs : List V}, AllP (ds.map vD) vs H ↔ ImAll ds vs H
  | [], vs => ⟨fun h => by cases h; exact imAll_nil.mpr rfl, fun h => by cases imAll_nil.mp h; exact .nil⟩
  | d :: ds, vs => ⟨fun h => by
      cases h with
      | cons h t => exact imAll_cons.mpr ⟨_, _, rfl, h, allP_D.mp t⟩, fun h => by
      obtain ⟨v, r, rfl, a, b⟩ := imAll_cons.mp h
      exact .cons a (allP_D.mpr b)⟩
def vL (ps : List VP) : VP := ⟨fun v H => ∃ a vs, v = .ref a ∧ H a = some (.lst vs) ∧ AllP ps vs H, fun e ⟨a, vs, h1, h2, h3⟩ => ⟨a, vs, h1, e a _ h2, h3.mono e⟩⟩
def vT (ps : List VP) : VP := ⟨fun v H => ∃ a vs, v = .ref a ∧ H a = some (.tup vs) ∧ AllP ps vs H, fun e ⟨a, vs, h1, h2, h3⟩ => ⟨a, vs, h1, e a _ h2, h3.mono e⟩⟩
theorem vT_D {ds : List D} {v : V} {H : Hp} : (vT (ds.map vD)).p v H ↔ (vD (.tup ds)).p v H :=
  ⟨fun ⟨a, vs, h1, h2, h3⟩ => im_tup.mpr ⟨a, vs, h1, h2, allP_D.mp h3⟩, fun h => (let ⟨a, vs, h1, h2, h3⟩ := im_tup.mp h; ⟨a, vs, h1, h2, allP_D.mpr h3⟩)⟩

/-! ### the view -/
def hid (S : Addr → Bool) (H : Hp) : Hp := fun a => if S a = true then none else H a
theorem hid_ex (S : Addr → Bool) (H : Hp) : Ex (hid S H) H := fun a o e => by
  unfold hid at e
  split at e
  · cases e
  · exact e
theorem hid_in {S : Addr → Bool} {H : Hp} {a : Addr} (h : S a = false) : hid S H a = H a := by
  unfold hid; rw [h]; rfl
theorem hid_out {S : Addr → Bool} {H : Hp} {a : Addr} (h : S a = true) : hid S H a = none := by
  unfold hid; rw [h]; rfl
theorem hid_sub {S S' : Addr → Bool} {H : Hp} (h : ∀ a, S' a = true → S a = true) : Ex (hid S H) (hid S' H) := fun a o e => by
  cases q : S' a with
  | true => rw [hid_out (h a q)] at e; cases e
  | false => rw [hid_in q]; exact hid_ex _ _ a o e

/-- a region with a law of its own -/
structure Th where
  reg : Addr → Bool
  ok : Hp → Prop
  loc : ∀ {H H' : Hp}, (∀ a, reg a = true → H' a = H a) → ok H → ok H'
  dom : ∀ {H : Hp}, ok H → ∀ a, reg a = true → H a ≠ none
def Th.nil : Th := ⟨fun _ => false, fun _ => True, fun _ _ => trivial, fun _ _ h => nomatch h⟩

structure Step (T : Th) (S : Addr → Bool) (H H' : Hp) : Prop where
  ex : Ex (hid S H) (hid S H')
  own : ∀ a, S a = true → T.reg a = false → H' a = H a
  ok : T.ok H → T.ok H'
theorem Step.refl (T : Th) (S : Addr → Bool) (H : Hp) : Step T S H H := ⟨Ex.refl _, fun _ _ _ => rfl, fun h => h⟩
theorem Step.trans {T : Th} {S : Addr → Bool} {H H1 H2 : Hp} (a : Step T S H H1) (b : Step T S H1 H2) : Step T S H H2 :=
  ⟨a.ex.trans b.ex, fun x h r => (b.own x h r).trans (a.own x h r), fun h => b.ok (a.ok h)⟩
/-- less is hidden -/
theorem Step.sub {T : Th} {S S' : Addr → Bool} {H H' : Hp} (h : Step T S H H') (hs : ∀ a, S' a = true → S a = true) (hr : ∀ a, T.reg a = true → S' a = true) : Step T S' H H' := by
  refine ⟨fun a o e => ?_, fun a q r => h.own a (hs a q) r, h.ok⟩
  cases q : S' a with
  | true => rw [hid_out q] at e; cases e
  | false =>
    rw [hid_in q] at e ⊢
    cases z : S a with
    | true =>
      have r : T.reg a = false := by
        cases y : T.reg a with
        | true => rw [hr a y] at q; cases q
        | false => rfl
      rw [h.own a z r]; exact e
    | false =>
      have := h.ex a o (by rw [hid_in z]; exact e)
      rw [hid_in z] at this
      exact this
/-- more is hidden: what stays as it is may be hidden -/
theorem Step.more {T : Th} {S S' : Addr → Bool} {H H' : Hp} (h : Step T S H H') (hd : ∀ a, S' a = true → S a = false → H a ≠ none) (hr : ∀ a, S a = true → S' a = true) : Step T S' H H' := by
  have key : ∀ a, S a = false → H a ≠ none → H' a = H a := fun a z n => by
    cases e : H a with
    | none => exact absurd e n
    | some o =>
      have := h.ex a o (by rw [hid_in z]; exact e)
      rw [hid_in z] at this
      exact this
  refine ⟨fun a o e => ?_, fun a q r => ?_, h.ok⟩
  · cases q : S' a with
    | true => rw [hid_out q] at e; cases e
    | false =>
      have z : S a = false := by
        cases y : S a with
        | true => rw [hr a y] at q; cases q
        | false => rfl
      rw [hid_in q] at e ⊢
      rw [key a z (by rw [e]; exact fun z => nomatch z)]; exact e
  · cases z : S a with
    | true => exact h.own a z r
    | false => exact key a z (hd a q z)

/-! ### own objects, contexts -/
structure OP where
  p : Addr → Hp → Hp → Prop
  vp : VP
  st : ∀ {a : Addr} {H H' K K' : Hp}, H' a = H a → Ex K K' → p a H K → p a H' K'
  out : ∀ {a : Addr} {H K K' : Hp}, Ex K K' → K' a = H a → p a H K → vp.p (.ref a) K'
  dom : ∀ {a : Addr} {H K : Hp}, p a H K → H a ≠ none
structure Fm where
  T : Th
  S0 : Addr → Bool
  H0 : Hp
  reg : ∀ a, T.reg a = true → S0 a = true
  dom : ∀ a, S0 a = true → H0 a ≠ none
structure Ct where
  imm : List (Option VP)
  own : List (Addr × OP)
  fx : List (V × VP)
def ownB (l : List (Addr × OP)) (a : Addr) : Bool := l.any fun e => e.1 == a
theorem ownB_iff {l : List (Addr × OP)} {a : Addr} : ownB l a = true ↔ a ∈ l.map (·.1) := by
  unfold ownB
  rw [List.any_eq_true, List.mem_map]
  constructor
  · rintro ⟨e, h1, h2⟩; exact ⟨e, h1, eq_of_beq h2⟩
  · rintro ⟨e, h1, rfl⟩; exact ⟨e, h1, beq_self_eq_true _⟩
def Fm.S (F : Fm) (l : List (Addr × OP)) : Addr → Bool := fun a => F.S0 a || ownB l a
abbrev Fm.vw (F : Fm) (Γ : Ct) (H : Hp) : Hp := hid (F.S Γ.own) H
theorem Fm.S_or {F : Fm} {l : List (Addr × OP)} {a : Addr} : F.S l a = true ↔ F.S0 a = true ∨ a ∈ l.map (·.1) := by
  unfold Fm.S
  rw [Bool.or_eq_true, ownB_iff]
structure Env (F : Fm) (Γ : Ct) (σ : L2.St) (H : Hp) : Prop where
  step : Step F.T F.S0 F.H0 H
  ok : F.T.ok H
  new : ∀ e ∈ Γ.own, F.H0 e.1 = none
  own : ∀ e ∈ Γ.own, e.2.p e.1 H (F.vw Γ H)
  nd : (Γ.own.map (·.1)).Nodup
  imm : ∀ (i : Nat) (P : VP), Γ.imm[i]? = some (some P) → ∃ v, σ[i]? = some (some v) ∧ P.p v (F.vw Γ H)
  len : σ.length = Γ.imm.length
  fx : ∀ e ∈ Γ.fx, e.2.p e.1 (F.vw Γ H)
section
variable {F : Fm} {Γ Γ' : Ct} {σ : L2.St} {H H' H1 H2 : Hp}
theorem Fm.regS (F : Fm) (l : List (Addr × OP)) : ∀ a, F.T.reg a = true → F.S l a = true := fun a h => Fm.S_or.mpr (.inl (F.reg a h))
theorem Env.go (h : Env F Γ σ H) (s : Step F.T (F.S Γ.own) H H') : Env F Γ σ H' := by
  have s0 : Step F.T F.S0 H H' := s.sub (fun a q => Fm.S_or.mpr (.inl q)) F.reg
  refine ⟨h.step.trans s0, s.ok h.ok, h.new, fun e he => ?_, h.nd, fun i P e => ?_, h.len, fun e he => e.2.mono s.ex (h.fx e he)⟩
  · refine e.2.st (s.own e.1 (Fm.S_or.mpr (.inr (List.mem_map_of_mem he))) ?_) s.ex (h.own e he)
    cases q : F.T.reg e.1 with
    | false => rfl
    | true => exact absurd (h.new e he) (F.dom _ (F.reg _ q))
  · obtain ⟨v, a, b⟩ := h.imm i P e
    exact ⟨v, a, P.mono s.ex b⟩
/-- what is hidden stands -/
theorem Env.hdom (h : Env F Γ σ H) {a : Addr} (q : F.S Γ.own a = true) : H a ≠ none := by
  rcases Fm.S_or.mp q with q | q
  · cases r : F.T.reg a with
    | true => exact F.T.dom h.ok a r
    | false => rw [h.step.own a q r]; exact F.dom a q
  · obtain ⟨e, he, rfl⟩ := List.mem_map.mp q
    exact e.2.dom (h.own e he)
/-- new things alone: a step -/
theorem Env.ex (h : Env F Γ σ H) (e : Ex H H') : Step F.T (F.S Γ.own) H H' := by
  have key : ∀ a, H a ≠ none → H' a = H a := fun a n => by
    cases q : H a with
    | none => exact absurd q n
    | some o => exact e a o q
  refine ⟨fun a o q => ?_, fun a q _ => key a (h.hdom q), F.T.loc (fun a r => key a (h.hdom (F.regS _ a r)))⟩
  cases z : F.S Γ.own a with
  | true => rw [hid_out z] at q; cases q
  | false => rw [hid_in z] at q ⊢; exact e a o q
theorem Env.fresh (h : Env F Γ σ H) {p : Addr} (hp : H p = none) : F.S Γ.own p = false := by
  cases z : F.S Γ.own p with
  | false => rfl
  | true => exact absurd hp (h.hdom z)
theorem Env.vwx (F : Fm) (Γ : Ct) (H : Hp) : Ex (F.vw Γ H) H := hid_ex _ _
/-- a slot -/
theorem Env.slot (h : Env F Γ σ H) {i : Nat} {P : VP} (e : Γ.imm[i]? = some (some P)) : ∃ v, σ[i]? = some (some v) ∧ P.p v (F.vw Γ H) := h.imm i P e
abbrev Ct.put (Γ : Ct) (i : Nat) (P : VP) : Ct := { Γ with imm := Γ.imm.set i (some P) }
theorem Env.put (h : Env F Γ σ H) {i : Nat} {P : VP} {v : V} (hv : P.p v (F.vw Γ H)) : Env F (Γ.put i P) (σ.set i (some v)) H := by
  refine ⟨h.step, h.ok, h.new, h.own, h.nd, fun j Q e => ?_, by rw [List.length_set, List.length_set]; exact h.len, h.fx⟩
  by_cases q : i = j
  · subst q
    have hl : i < Γ.imm.length := by
      have := (List.getElem?_eq_some_iff.mp e).1
      rw [List.length_set] at this
      exact this
    rw [List.getElem?_set_self hl] at e
    cases e
    exact ⟨v, List.getElem?_set_self (by rw [h.len]; exact hl), hv⟩
  · rw [List.getElem?_set_ne q] at e
    obtain ⟨x, a, b⟩ := h.imm j Q e
    exact ⟨x, (List.getElem?_set_ne q).trans a, b⟩
end

/-! ### what runs: the widest readings -/
section
variable (X : Cx)
def oE (e : Expr) : TE := fun σ H Q => ∀ (pins : List (Addr × Obj)) (s : Shared), Inv X pins σ H s → wpAny (model X.prog X.w) X.A (eval e X.env) (EP X pins σ Q) X.xe s
def oT (e : Expr) : TT := fun σ H Q => ∀ (pins : List (Addr × Obj)) (s : Shared), Inv X pins σ H s → wpAny (model X.prog X.w) X.A (isTrue e X.env (eval e X.env)) (TP X pins σ Q) X.xe s
def oW (e : Expr) : TT := fun σ H Q => ∀ (whole : Sem Value) (pins : List (Addr × Obj)) (s : Shared), Inv X pins σ H s → wpAny (model X.prog X.w) X.A (isTrue e X.env whole) (TP X pins σ Q) X.xe s
def oA (es : List Expr) : TA := fun σ H Q => ∀ (pos : Pos) (pins : List (Addr × Obj)) (s : Shared), Inv X pins σ H s → wpAny (model X.prog X.w) X.A (spliced (backTo pos (starEach es X.env))) (AP X pins σ Q) X.xe s
def oSs (st : List Stmt) : TS := fun D σ H => ∀ (pins : List (Addr × Obj)) (s : Shared), Inv X pins σ H s → wpAny (model X.prog X.w) X.A (execs st X.env) (SP X pins D) X.xe s
def oG (tg : Expr) : TG := fun v σ H Q => ∀ (pins : List (Addr × Obj)) (s : Shared) (u : Value), Inv X pins σ H s → RelV v u → wpAny (model X.prog X.w) X.A (assign tg X.env u) (fun _ s' => ∃ σ' H', Inv X pins σ' H' s' ∧ Q σ' H') X.xe s
def oI (tg iter : Expr) : TI := fun σ H R => ∀ (pins : List (Addr × Obj)) (s : Shared), Inv X pins σ H s →
    wpAny (model X.prog X.w) X.A (eval iter X.env) (fun v s1 => wpAny (model X.prog X.w) X.A (pyIter v) (PIE X pins σ tg R) X.xe s1) X.xe s
def oO (e : Option Expr) : TO := fun σ H Q => ∀ (pins : List (Addr × Obj)) (s : Shared), Inv X pins σ H s → wpAny (model X.prog X.w) X.A (evalPart e X.env) (fun u s' => ∃ o H', Inv X pins σ H' s' ∧ IsPart u o ∧ Q o H') X.xe s
end
section
variable {X : Cx}
theorem pE {e : Expr} : PE X e (oE X e) := ⟨fun pins s _ _ _ I h => h pins s I⟩
theorem pT {e : Expr} : PT X e (oT X e) := ⟨fun pins s _ _ _ I h => h pins s I⟩
theorem pW {e : Expr} : PW X e (oW X e) := ⟨fun w pins s _ _ _ I h => h w pins s I⟩
theorem pA {es : List Expr} : PA X es (oA X es) := ⟨fun pos pins s _ _ _ I h => h pos pins s I⟩
theorem pSs {st : List Stmt} : PSs X st (oSs X st) := ⟨fun pins s _ _ _ I h => h pins s I⟩
theorem pG {tg : Expr} : PG X tg (oG X tg) := ⟨fun pins s _ _ _ u _ I r h => h pins s u I r⟩
theorem pI {tg iter : Expr} : PI X tg iter (oI X tg iter) := ⟨fun pins s _ _ _ I h => h pins s I⟩
theorem pO {e : Option Expr} : PO X e (oO X e) := ⟨fun pins s _ _ _ I h => h pins s I⟩
theorem oE_of {e : Expr} {t : TE} (h : PE X e t) {σ : L2.St} {H : Hp} {Q : VK} (q : t σ H Q) : oE X e σ H Q := fun pins s I => h.run pins s σ H Q I q
theorem oT_of {e : Expr} {t : TT} (h : PT X e t) {σ : L2.St} {H : Hp} {Q : Bool → Hp → Prop} (q : t σ H Q) : oT X e σ H Q := fun pins s I => h.run pins s σ H Q I q
theorem oW_of {e : Expr} {t : TT} (h : PW X e t) {σ : L2.St} {H : Hp} {Q : Bool → Hp → Prop} (q : t σ H Q) : oW X e σ H Q := fun w pins s I => h.run w pins s σ H Q I q
theorem oA_of {e : List Expr} {t : TA} (h : PA X e t) {σ : L2.St} {H : Hp} {Q : List V → Hp → Prop} (q : t σ H Q) : oA X e σ H Q := fun pos pins s I => h.run pos pins s σ H Q I q
theorem oSs_of {st : List Stmt} {t : TS} (h : PSs X st t) {σ : L2.St} {H : Hp} {D : Ends} (q : t D σ H) : oSs X st D σ H := fun pins s I => h.run pins s σ H D I q
theorem oG_of {tg : Expr} {t : TG} (h : PG X tg t) {v : V} {σ : L2.St} {H : Hp} {Q : L2.St → Hp → Prop} (q : t v σ H Q) : oG X tg v σ H Q := fun pins s u I r => h.run pins s σ H v u Q I r q
theorem oI_of {tg iter : Expr} {t : TI} (h : PI X tg iter t) {σ : L2.St} {H : Hp} {R : It → Hp → Prop} (q : t σ H R) : oI X tg iter σ H R := fun pins s I => h.run pins s σ H R I q
theorem oO_of {e : Option Expr} {t : TO} (h : PO X e t) {σ : L2.St} {H : Hp} {Q : Option Int → Hp → Prop} (q : t σ H Q) : oO X e σ H Q := fun pins s I => h.run pins s σ H Q I q
end

/-! ### the judgements -/
def Kt (F : Fm) (Γ : Ct) (H : Hp) (P : VP) (Q : VK) : Prop := ∀ v H', Step F.T (F.S Γ.own) H H' → P.p v (F.vw Γ H') → Q v H'
/-- reading t gives P -/
def RE (F : Fm) (Γ : Ct) (t : TE) (P : VP) : Prop := ∀ (σ : L2.St) (H : Hp) (Q : VK), Env F Γ σ H → Kt F Γ H P Q → t σ H Q
def RT (F : Fm) (Γ : Ct) (t : TT) (B : Bool → Prop) : Prop := ∀ (σ : L2.St) (H : Hp) (Q : Bool → Hp → Prop), Env F Γ σ H → (∀ b H', Step F.T (F.S Γ.own) H H' → B b → Q b H') → t σ H Q
def RA (F : Fm) (Γ : Ct) (t : TA) (Ps : List VP) : Prop := ∀ (σ : L2.St) (H : Hp) (Q : List V → Hp → Prop), Env F Γ σ H → (∀ vs H', Step F.T (F.S Γ.own) H H' → AllP Ps vs (F.vw Γ H') → Q vs H') → t σ H Q
/-- a new object: hidden at once -/
def KtN (F : Fm) (Γ : Ct) (H : Hp) (O : OP) (Q : VK) : Prop := ∀ p H', Step F.T (F.S Γ.own) H H' → H p = none → O.p p H' (hid (F.S (Γ.own ++ [(p, O)])) H') → Q (.ref p) H'
def RN (F : Fm) (Γ : Ct) (t : TE) (O : OP) : Prop := ∀ (σ : L2.St) (H : Hp) (Q : VK), Env F Γ σ H → KtN F Γ H O Q → t σ H Q
abbrev JE (F : Fm) (X : Cx) (Γ : Ct) (e : Expr) (P : VP) : Prop := RE F Γ (oE X e) P
abbrev JT (F : Fm) (X : Cx) (Γ : Ct) (e : Expr) (B : Bool → Prop) : Prop := RT F Γ (oT X e) B
abbrev JW (F : Fm) (X : Cx) (Γ : Ct) (e : Expr) (B : Bool → Prop) : Prop := RT F Γ (oW X e) B
abbrev JA (F : Fm) (X : Cx) (Γ : Ct) (es : List Expr) (Ps : List VP) : Prop := RA F Γ (oA X es) Ps
abbrev JN (F : Fm) (X : Cx) (Γ : Ct) (e : Expr) (O : OP) : Prop := RN F Γ (oE X e) O
section
variable {F : Fm} {X : Cx} {Γ : Ct} {e : Expr} {es : List Expr} {P P' : VP} {t : TE}
theorem je_of (h : PE X e t) (r : RE F Γ t P) : JE F X Γ e P := fun σ H Q E k => oE_of h (r σ H Q E k)
theorem jn_of {O : OP} (h : PE X e t) (r : RN F Γ t O) : JN F X Γ e O := fun σ H Q E k => oE_of h (r σ H Q E k)
theorem jt_of {t : TT} {B : Bool → Prop} (h : PT X e t) (r : RT F Γ t B) : JT F X Γ e B := fun σ H Q E k => oT_of h (r σ H Q E k)
theorem jw_of {t : TT} {B : Bool → Prop} (h : PW X e t) (r : RT F Γ t B) : JW F X Γ e B := fun σ H Q E k => oW_of h (r σ H Q E k)
theorem ja_of {t : TA} {Ps : List VP} (h : PA X es t) (r : RA F Γ t Ps) : JA F X Γ es Ps := fun σ H Q E k => oA_of h (r σ H Q E k)
theorem je_imp (h : JE F X Γ e P) (hi : ∀ v H, P.p v H → P'.p v H) : JE F X Γ e P' := fun σ H Q E k => h σ H Q E fun v H' s p => k v H' s (hi _ _ p)
theorem je_eq (h : JE F X Γ e P) (hi : P = P') : JE F X Γ e P' := hi ▸ h
theorem jt_imp {B B' : Bool → Prop} (h : JT F X Γ e B) (hi : ∀ b, B b → B' b) : JT F X Γ e B' := fun σ H Q E k => h σ H Q E fun v H' s p => k v H' s (hi _ p)
theorem ja_nil : JA F X Γ [] [] := ja_of pa_nil fun σ H Q E k => k [] H (Step.refl _ _ _) .nil
theorem ja_cons {Ps : List VP} (h : JE F X Γ e P) (t : JA F X Γ es Ps) (hs : starEach (e :: es) X.env = (false, eval e X.env) :: starEach es X.env := by rfl) : JA F X Γ (e :: es) (P :: Ps) :=
  ja_of (pa_cons pE pA hs) fun σ H Q E k => h σ H _ E fun v H1 s1 p => t σ H1 _ (E.go s1) fun vs H2 s2 ps => k (v :: vs) H2 (s1.trans s2) (.cons (P.mono s2.ex p) ps)
theorem ja_imp {Ps Ps' : List VP} (h : JA F X Γ es Ps) (hi : ∀ vs H, AllP Ps vs H → AllP Ps' vs H) : JA F X Γ es Ps' := fun σ H Q E k => h σ H Q E fun v H' s p => k v H' s (hi _ _ p)
theorem ja1 (h : JE F X Γ e P) (hs : starEach [e] X.env = (false, eval e X.env) :: starEach [] X.env := by rfl) : JA F X Γ [e] [P] := ja_cons h ja_nil hs
/-- a new thing may be shown -/
theorem je_new {O : OP} (h : JN F X Γ e O) : JE F X Γ e O.vp := fun σ H Q E k => h σ H Q E fun p H' s hp ho => k _ H' s (by
  refine O.out (hid_sub fun a q => ?_) ?_ ho
  · rcases Fm.S_or.mp q with q | q
    · exact Fm.S_or.mpr (.inl q)
    · exact Fm.S_or.mpr (.inr (by rw [List.map_append]; exact List.mem_append_left _ q))
  · exact hid_in (E.fresh hp))
end

/-! ### plain expressions -/
section
variable {F : Fm} {X : Cx} {Γ : Ct} {pos : Pos} {a b c : Expr} {es : List Expr} {P Pa Pb Pc : VP}
theorem kt_here {H : Hp} {Q : VK} {v : V} (k : Kt F Γ H P Q) (h : P.p v (F.vw Γ H)) : Q v H := k v H (Step.refl _ _ _) h
theorem je_name (i : Nat) {x : Str} (hΓ : Γ.imm[i]? = some (some P) := by rfl) (hN : X.N[i]? = some x := by rfl) (hv : Vis X.env.scope x := by first | exact .inl rfl | exact .inr (.inl rfl) | exact .inr (.inr rfl))
    (hd : (x == ("__debug__" : Str)) = false := by decide) (hcd : (x == ("__classdict__" : Str)) = false := by decide) : JE F X Γ (.Name x pos) P :=
  je_of (pe_var hN hv hd hcd) fun σ H Q E k => (let ⟨v, h1, h2⟩ := E.imm i P hΓ; ⟨v, h1, kt_here k h2⟩)
theorem je_int {i : Int} {j} : JE F X Γ (.Constant (.int i) j pos) (vZ i) := je_of pe_int fun σ H Q E k => kt_here k (vD_num.mpr rfl)
theorem je_str {x : Str} {j} : JE F X Γ (.Constant (.str x) j pos) (vD (.text x)) := je_of pe_str fun σ H Q E k => kt_here k (vD_text.mpr rfl)
theorem je_none {j} : JE F X Γ (.Constant .none j pos) vNone := je_of pe_non fun σ H Q E k => kt_here k (vD_none.mpr rfl)
theorem je_bl {b : Bool} {j} : JE F X Γ (.Constant (.bool b) j pos) (vB b) := je_of pe_bl fun σ H Q E k => kt_here k rfl
theorem je_glob {x : Str} {i : Int} {tk : Tok} (hm : X.mg x = some (.int i tk)) (hg : Gl X x := by rfl) (hd : (x == ("__debug__" : Str)) = false := by decide) : JE F X Γ (.Name x pos) (vZ i) :=
  je_of (pe_glob (v := .int i) hg hm ⟨_, rfl⟩ hd) fun σ H Q E k => kt_here k (vD_num.mpr rfl)
/-- what a rule of two values gives -/
def G2 (F : Fm) (Γ : Ct) (r : R2) (Pa Pb P : VP) : Prop := ∀ (σ : L2.St) (H : Hp) (x y : V) (Q : VK), Env F Γ σ H → Pa.p x (F.vw Γ H) → Pb.p y (F.vw Γ H) → Kt F Γ H P Q → r x y H Q
def G1 (F : Fm) (Γ : Ct) (r : V → Hp → VK → Prop) (Pa P : VP) : Prop := ∀ (σ : L2.St) (H : Hp) (x : V) (Q : VK), Env F Γ σ H → Pa.p x (F.vw Γ H) → Kt F Γ H P Q → r x H Q
def GC (F : Fm) (Γ : Ct) (r : List V → Hp → VK → Prop) (Ps : List VP) (P : VP) : Prop := ∀ (σ : L2.St) (H : Hp) (xs : List V) (Q : VK), Env F Γ σ H → AllP Ps xs (F.vw Γ H) → Kt F Γ H P Q → r xs H Q
def GCN (F : Fm) (Γ : Ct) (r : List V → Hp → VK → Prop) (Ps : List VP) (O : OP) : Prop := ∀ (σ : L2.St) (H : Hp) (xs : List V) (Q : VK), Env F Γ σ H → AllP Ps xs (F.vw Γ H) → KtN F Γ H O Q → r xs H Q
theorem re_op {r : R2} {ta tb : TE} (ha : RE F Γ ta Pa) (hb : RE F Γ tb Pb) (g : G2 F Γ r Pa Pb P) : RE F Γ (tOp r ta tb) P := fun σ H Q E k =>
  ha σ H _ E fun x H1 s1 p1 => hb σ H1 _ (E.go s1) fun y H2 s2 p2 => g σ H2 x y Q (E.go (s1.trans s2)) (Pa.mono s2.ex p1) p2 fun v H3 s3 p3 => k v H3 ((s1.trans s2).trans s3) p3
theorem je_bin {op : Operator} {r : R2} (ho : OpR X (binaryOp op) r) (ha : JE F X Γ a Pa) (hb : JE F X Γ b Pb) (g : G2 F Γ r Pa Pb P) : JE F X Γ (.BinOp a op b pos) P := je_of (pe_op ho pE pE) (re_op ha hb g)
theorem je_cmp {op : CmpOp} {r : R2} (ho : OpR X (compareOp op) r) (ha : JE F X Γ a Pa) (hb : JE F X Γ b Pb) (g : G2 F Γ r Pa Pb P) (hm : behindInMarks op b = false := by first | exact nomark _ | rfl) : JE F X Γ (.Compare a [op] [b] pos) P := je_of (pe_cmpR ho pE pE hm) (re_op ha hb g)
theorem rt_test {t : TE} {k : Bool} (h : RE F Γ t (vB k)) : RT F Γ (tTest t) (· = k) := fun σ H Q E q => h σ H _ E fun v H' s p => ⟨k, p, q k H' s rfl⟩
theorem jt_cmp {op : CmpOp} {r : R2} {k : Bool} (ho : OpR X (compareOp op) r) (ha : JE F X Γ a Pa) (hb : JE F X Γ b Pb) (g : G2 F Γ r Pa Pb (vB k)) (hm : behindInMarks op b = false := by first | exact nomark _ | rfl) : JT F X Γ (.Compare a [op] [b] pos) (· = k) :=
  jt_of (pt_cmpR ho pE pE hm) (rt_test (re_op ha hb g))
theorem jt_val {e : Expr} {k : Bool} (h : JE F X Γ e (vB k)) (he : ∀ whole, isTrue e X.env whole = (do let v ← whole; standAt e.pos; holding [v] (truthy v)) := by intro _; rfl) : JT F X Γ e (· = k) :=
  jt_of (pt_val pE he) fun σ H Q E q => h σ H _ E fun v H' s p => ⟨k, p, q k H' s rfl⟩
/-! rules of numbers -/
theorem g2_I0 {g : Int → Int → V} {i j : Int} {P : VP} (hP : ∀ K, P.p (g i j) K) : G2 F Γ (rI0 g) (vZ i) (vZ j) P := fun σ H x y Q E hx hy k => ⟨i, j, vD_num.mp hx, vD_num.mp hy, kt_here k (hP _)⟩
theorem g2_I {C : Int → Int → Prop} {g : Int → Int → V} {i j : Int} {P : VP} (hc : C i j) (hP : ∀ K, P.p (g i j) K) : G2 F Γ (rI C g) (vZ i) (vZ j) P := fun σ H x y Q E hx hy k => ⟨i, j, vD_num.mp hx, vD_num.mp hy, hc, kt_here k (hP _)⟩
variable {i j : Int}
theorem je_add (ha : JE F X Γ a (vZ i)) (hb : JE F X Γ b (vZ j)) : JE F X Γ (.BinOp a .Add b pos) (vZ (i + j)) := je_bin op_add ha hb (g2_I0 fun _ => vD_num.mpr rfl)
theorem je_sub (ha : JE F X Γ a (vZ i)) (hb : JE F X Γ b (vZ j)) : JE F X Γ (.BinOp a .Sub b pos) (vZ (i - j)) := je_bin op_sub ha hb (g2_I0 fun _ => vD_num.mpr rfl)
theorem je_mul (ha : JE F X Γ a (vZ i)) (hb : JE F X Γ b (vZ j)) (hc : CMul i j) : JE F X Γ (.BinOp a .Mult b pos) (vZ (i * j)) := je_bin op_mul ha hb (g2_I hc fun _ => vD_num.mpr rfl)
theorem je_mod (ha : JE F X Γ a (vZ i)) (hb : JE F X Γ b (vZ j)) (hc : 0 < j) : JE F X Γ (.BinOp a .Mod b pos) (vZ (i % j)) := je_bin op_mod ha hb (g2_I hc fun _ => vD_num.mpr rfl)
theorem je_fdiv (ha : JE F X Γ a (vZ i)) (hb : JE F X Γ b (vZ j)) (hc : CDiv i j) : JE F X Γ (.BinOp a .FloorDiv b pos) (vZ (i / j)) := je_bin op_fdiv ha hb (g2_I hc fun _ => vD_num.mpr rfl)
theorem je_pow (ha : JE F X Γ a (vZ i)) (hb : JE F X Γ b (vZ j)) (hc : CPow i j) : JE F X Γ (.BinOp a .Pow b pos) (vZ (i ^ j.toNat)) := je_bin op_pow ha hb (g2_I hc fun _ => vD_num.mpr rfl)
theorem je_lt (ha : JE F X Γ a (vZ i)) (hb : JE F X Γ b (vZ j)) : JE F X Γ (.Compare a [.Lt] [b] pos) (vB (decide (i < j))) := je_cmp op_lt ha hb (g2_I0 fun _ => rfl)
theorem je_le (ha : JE F X Γ a (vZ i)) (hb : JE F X Γ b (vZ j)) : JE F X Γ (.Compare a [.LtE] [b] pos) (vB (decide (i ≤ j))) := je_cmp op_le ha hb (g2_I0 fun _ => rfl)
theorem je_gt (ha : JE F X Γ a (vZ i)) (hb : JE F X Γ b (vZ j)) : JE F X Γ (.Compare a [.Gt] [b] pos) (vB (decide (j < i))) := je_cmp op_gt ha hb (g2_I0 fun _ => rfl)
theorem je_ge (ha : JE F X Γ a (vZ i)) (hb : JE F X Γ b (vZ j)) : JE F X Γ (.Compare a [.GtE] [b] pos) (vB (decide (j ≤ i))) := je_cmp op_ge ha hb (g2_I0 fun _ => rfl)
theorem jt_lt (ha : JE F X Γ a (vZ i)) (hb : JE F X Γ b (vZ j)) : JT F X Γ (.Compare a [.Lt] [b] pos) (· = decide (i < j)) := jt_cmp op_lt ha hb (g2_I0 fun _ => rfl)
theorem jt_le (ha : JE F X Γ a (vZ i)) (hb : JE F X Γ b (vZ j)) : JT F X Γ (.Compare a [.LtE] [b] pos) (· = decide (i ≤ j)) := jt_cmp op_le ha hb (g2_I0 fun _ => rfl)
theorem jt_gt (ha : JE F X Γ a (vZ i)) (hb : JE F X Γ b (vZ j)) : JT F X Γ (.Compare a [.Gt] [b] pos) (· = decide (j < i)) := jt_cmp op_gt ha hb (g2_I0 fun _ => rfl)
theorem jt_ge (ha : JE F X Γ a (vZ i)) (hb : JE F X Γ b (vZ j)) : JT F X Γ (.Compare a [.GtE] [b] pos) (· = decide (j ≤ i)) := jt_cmp op_ge ha hb (g2_I0 fun _ => rfl)
/-! equality of data -/
theorem g2_eq {d e : D} (h1 : fine d = true) (h2 : fine e = true) : G2 F Γ rEqI (vD d) (vD e) (vB (decide (d = e))) := fun σ H x y Q E hx hy k => ⟨d, e, Im.mono hx (hid_ex _ _), Im.mono hy (hid_ex _ _), h1, h2, kt_here k rfl⟩
theorem g2_ne {d e : D} (h1 : fine d = true) (h2 : fine e = true) : G2 F Γ rNeI (vD d) (vD e) (vB (!decide (d = e))) := fun σ H x y Q E hx hy k => ⟨d, e, Im.mono hx (hid_ex _ _), Im.mono hy (hid_ex _ _), h1, h2, kt_here k rfl⟩
variable {d e : D} {n : Nat}
theorem je_eqD (hr : Room n X.A) (ha : JE F X Γ a (vD d)) (hb : JE F X Γ b (vD e)) (h1 : fine d = true := by rfl) (h2 : fine e = true := by rfl) : JE F X Γ (.Compare a [.Eq] [b] pos) (vB (decide (d = e))) := je_cmp (op_eqI hr.units) ha hb (g2_eq h1 h2)
theorem je_neD (hr : Room n X.A) (ha : JE F X Γ a (vD d)) (hb : JE F X Γ b (vD e)) (h1 : fine d = true := by rfl) (h2 : fine e = true := by rfl) : JE F X Γ (.Compare a [.NotEq] [b] pos) (vB (!decide (d = e))) := je_cmp (op_neI hr.units) ha hb (g2_ne h1 h2)
theorem jt_eqD (hr : Room n X.A) (ha : JE F X Γ a (vD d)) (hb : JE F X Γ b (vD e)) (h1 : fine d = true := by rfl) (h2 : fine e = true := by rfl) : JT F X Γ (.Compare a [.Eq] [b] pos) (· = decide (d = e)) := jt_cmp (op_eqI hr.units) ha hb (g2_eq h1 h2)
theorem jt_neD (hr : Room n X.A) (ha : JE F X Γ a (vD d)) (hb : JE F X Γ b (vD e)) (h1 : fine d = true := by rfl) (h2 : fine e = true := by rfl) : JT F X Γ (.Compare a [.NotEq] [b] pos) (· = !decide (d = e)) := jt_cmp (op_neI hr.units) ha hb (g2_ne h1 h2)
/-! is None -/
def isN : D → Bool
  | .none => true
  | _ => false
theorem isN_of {v : V} {H : Hp} (h : Im d v H) : decide (v = .non) = isN d := by
  cases d with
  | none => rw [im_none.mp h]; rfl
  | num _ => rw [im_num.mp h]; rfl
  | text _ => rw [im_text.mp h]; rfl
  | tup _ => obtain ⟨p, vs, rfl, _⟩ := im_tup.mp h; rfl
theorem re_isN {t : TE} (h : RE F Γ t (vD d)) : RE F Γ (tIsN t) (vB (isN d)) := fun σ H Q E k => h σ H _ E fun v H1 s p => k _ H1 s (by rw [isN_of (show Im d v _ from p)]; rfl)
theorem re_notN {t : TE} (h : RE F Γ t (vD d)) : RE F Γ (tNotN t) (vB (!isN d)) := fun σ H Q E k => h σ H _ E fun v H1 s p => k _ H1 s (by rw [isN_of (show Im d v _ from p)]; rfl)
theorem je_isN {j pos'} (ha : JE F X Γ a (vD d)) : JE F X Γ (.Compare a [.Is] [.Constant .none j pos'] pos) (vB (isN d)) := je_of (pe_cmp (pc_isN pE)) (re_isN ha)
theorem je_notN {j pos'} (ha : JE F X Γ a (vD d)) : JE F X Γ (.Compare a [.IsNot] [.Constant .none j pos'] pos) (vB (!isN d)) := je_of (pe_cmp (pc_notN pE)) (re_notN ha)
theorem rt_tB {t : TE} {k : Bool} (h : RE F Γ t (vB k)) : RT F Γ (tB t) (· = k) := fun σ H Q E q => h σ H _ E fun v H' s p => ⟨k, p, q k H' s rfl⟩
theorem jt_isN {j pos'} (ha : JE F X Γ a (vD d)) : JT F X Γ (.Compare a [.Is] [.Constant .none j pos'] pos) (· = isN d) := jt_of (pt_cmp (pc_isN pE)) (rt_tB (re_isN ha))
theorem jt_notN {j pos'} (ha : JE F X Γ a (vD d)) : JT F X Γ (.Compare a [.IsNot] [.Constant .none j pos'] pos) (· = !isN d) := jt_of (pt_cmp (pc_notN pE)) (rt_tB (re_notN ha))
end

/-! ### and, or, not, one of two -/
section
variable {F : Fm} {X : Cx} {Γ : Ct} {pos : Pos} {a b c : Expr} {rest : List Expr} {P : VP} {k l : Bool}
theorem je_one {op} (h : JE F X Γ a P) : JE F X Γ (.BoolOp op [a] pos) P := je_of (pe_one pE) h
theorem je_and (ha : JE F X Γ a (vB k)) (hb : k = true → JE F X Γ (.BoolOp .And (b :: rest) pos) (vB l)) : JE F X Γ (.BoolOp .And (a :: b :: rest) pos) (vB (k && l)) :=
  je_of (pe_and pE pE) fun σ H Q E q => ha σ H _ E fun v H1 s p => ⟨k, p, by
    cases k with
    | true => exact hb rfl σ H1 Q (E.go s) fun v H2 s2 p2 => q v H2 (s.trans s2) p2
    | false => exact q _ H1 s rfl⟩
theorem je_or (ha : JE F X Γ a (vB k)) (hb : k = false → JE F X Γ (.BoolOp .Or (b :: rest) pos) (vB l)) : JE F X Γ (.BoolOp .Or (a :: b :: rest) pos) (vB (k || l)) :=
  je_of (pe_or pE pE) fun σ H Q E q => ha σ H _ E fun v H1 s p => ⟨k, p, by
    cases k with
    | false => exact hb rfl σ H1 Q (E.go s) fun v H2 s2 p2 => q v H2 (s.trans s2) p2
    | true => exact q _ H1 s rfl⟩
theorem je_not (ha : JE F X Γ a (vB k)) : JE F X Γ (.UnaryOp .Not a pos) (vB (!k)) := je_of (pe_not pE) fun σ H Q E q => ha σ H _ E fun v H1 s p => ⟨k, p, q _ H1 s rfl⟩
theorem jt_not (ha : JT F X Γ a (· = k)) : JT F X Γ (.UnaryOp .Not a pos) (· = !k) := jt_of (pt_not pT) fun σ H Q E q => ha σ H _ E fun b H1 s p => q _ H1 s (by rw [p])
theorem jw_and1 (ha : JT F X Γ a (· = k)) : JW F X Γ (.BoolOp .And [a] pos) (· = k) := jw_of (pw_and1 pT) ha
theorem jw_or1 (ha : JT F X Γ a (· = k)) : JW F X Γ (.BoolOp .Or [a] pos) (· = k) := jw_of (pw_or1 pT) ha
theorem jw_and (ha : JT F X Γ a (· = k)) (hb : k = true → JW F X Γ (.BoolOp .And (b :: rest) pos) (· = l)) : JW F X Γ (.BoolOp .And (a :: b :: rest) pos) (· = (k && l)) :=
  jw_of (pw_and pT pW) fun σ H Q E q => ha σ H _ E fun c H1 s p => by
    subst p
    cases c with
    | true => rw [if_pos rfl]; exact hb rfl σ H1 Q (E.go s) fun v H2 s2 p2 => q v H2 (s.trans s2) p2
    | false => rw [if_neg (fun z => nomatch z)]; exact q _ H1 s rfl
theorem jw_or (ha : JT F X Γ a (· = k)) (hb : k = false → JW F X Γ (.BoolOp .Or (b :: rest) pos) (· = l)) : JW F X Γ (.BoolOp .Or (a :: b :: rest) pos) (· = (k || l)) :=
  jw_of (pw_or pT pW) fun σ H Q E q => ha σ H _ E fun c H1 s p => by
    subst p
    cases c with
    | false => rw [if_neg (fun z => nomatch z)]; exact hb rfl σ H1 Q (E.go s) fun v H2 s2 p2 => q v H2 (s.trans s2) p2
    | true => rw [if_pos rfl]; exact q _ H1 s rfl
theorem jt_w {B : Bool → Prop} (h : JW F X Γ a B) : JT F X Γ a B := jt_of (PW.pt pW) h
theorem je_if {B : Bool → Prop} (hc : JT F X Γ c B) (ha : B true → JE F X Γ a P) (hb : B false → JE F X Γ b P) : JE F X Γ (.IfExp c a b pos) P :=
  je_of (pe_ifExp pT pE pE) fun σ H Q E q => hc σ H _ E fun k H1 s p => by
    cases k with
    | true => rw [if_pos rfl]; exact ha p σ H1 Q (E.go s) fun v H2 s2 p2 => q v H2 (s.trans s2) p2
    | false => rw [if_neg (fun z => nomatch z)]; exact hb p σ H1 Q (E.go s) fun v H2 s2 p2 => q v H2 (s.trans s2) p2
theorem je_chainI {i j l : Int} {op op' : CmpOp} {f g : Int → Int → Bool} (ho : OpR X (compareOp op) (rI0 fun i j => .bl (f i j))) (ho' : OpR X (compareOp op') (rI0 fun i j => .bl (g i j))) (ha : JE F X Γ a (vZ i)) (hb : JE F X Γ b (vZ j)) (hc : JE F X Γ c (vZ l))
    (hm : lastMarks [op, op'] [b, c] = false := by with_unfolding_all rfl) : JE F X Γ (.Compare a [op, op'] [b, c] pos) (vB (f i j && g j l)) :=
  je_of (pe_chain ho ho' pE pE pE hm) fun σ H Q E q => ha σ H _ E fun x H1 s1 p1 => hb σ H1 _ (E.go s1) fun y H2 s2 p2 => ⟨i, j, vD_num.mp p1, vD_num.mp p2, f i j, rfl, by
    cases z : f i j with
    | true =>
      rw [if_pos rfl]
      exact hc σ H2 _ (E.go (s1.trans s2)) fun w H3 s3 p3 => ⟨j, l, vD_num.mp p2, vD_num.mp p3, q _ H3 ((s1.trans s2).trans s3) (by rw [z, Bool.true_and]; rfl)⟩
    | false => rw [if_neg (fun z => nomatch z)]; exact q _ H2 (s1.trans s2) (by rw [z, Bool.false_and]; rfl)⟩
end
end Lk
end

section
set_option Elab.async false
set_option linter.all false
set_option maxRecDepth 100000
set_option maxHeartbeats 1000000
/-! Containers: dicts, lists, instances; reading and writing them; calls. -/
namespace Lk
open PySem PySem.Spec L2
open PyProof.Rows hiding St
open Evl (Ex)

/-! ### dicts, the keys in a view -/
def DX2 (P : Program) (w : World) (kvs : List (D × V)) (a : Addr) (K H : Hp) : Prop := ∃ (es : Array DictEntry) (ep : Nat) (xs : List (D × Addr × Value)), H a = some (dxO a es ep) ∧ (a == sysModules) = false ∧ kvs.length ≤ sizeLine ∧
  es.toList = xs.map (entryOfKey (nestedKind P w)) ∧ (xs.map (·.1)).Nodup ∧ KX K kvs xs
section
variable {P : Program} {w : World} {H H' K K' : Hp} {kvs : List (D × V)} {v : V} {a : Addr}
theorem DX2.dx (h : DX2 P w kvs a K H) (e : Ex K H) : DX P w kvs (.ref a) H := by
  obtain ⟨es, ep, xs, ha, hs, hl, he, hn, hk⟩ := h
  exact ⟨a, es, ep, xs, rfl, ha, hs, hl, he, hn, hk.keeps (Ex.tx e)⟩
theorem DX2.stay (h : DX2 P w kvs a K H) (e : H' a = H a) (k : Ex K K') : DX2 P w kvs a K' H' := by
  obtain ⟨es, ep, xs, ha, hs, hl, he, hn, hk⟩ := h
  exact ⟨es, ep, xs, e.trans ha, hs, hl, he, hn, hk.keeps (Ex.tx k)⟩
theorem DX.two (h : DX P w kvs v H) : ∃ a, v = .ref a ∧ DX2 P w kvs a H H := by
  obtain ⟨a, es, ep, xs, rfl, ha, hs, hl, he, hn, hk⟩ := h
  exact ⟨a, rfl, es, ep, xs, ha, hs, hl, he, hn, hk⟩
end
section
variable {X : Cx} {pins : List (Addr × Obj)} {σ : L2.St} {H K : Hp} {s : Shared} {kvs : List (D × V)}
theorem DX2.at_ {a : Addr} (I : Inv X pins σ H s) (e : Ex K H) (h : DX2 X.prog X.w kvs a K H) : ∃ (es : Array DictEntry) (ep : Nat) (xs : List (D × Addr × Value)), H a = some (dxO a es ep) ∧ (a == sysModules) = false ∧ kvs.length ≤ sizeLine ∧ xs.length ≤ sizeLine ∧ KX K kvs xs ∧
    KX H kvs xs ∧ s.heap.DictOfH (nestedKind X.prog X.w) a xs := by
  obtain ⟨es, ep, xs, ha, hs, hl, he, hn, hk⟩ := h
  obtain ⟨o, h1, h2, h3⟩ := (I.hok a _ ha).1
  have hk2 := hk.keeps (Ex.tx e)
  exact ⟨es, ep, xs, ha, hs, hl, by rw [← Paired.length hk]; exact hl, hk, hk2, ⟨o, es, ep, h1, h2, h3, he, hk2.all I, hn⟩⟩
theorem dx_write2 {h' : Heap} {t' : Nat} {a : Addr} {es : Array DictEntry} {ep : Nat} {kvs' : List (D × V)} {xs' : List (D × Addr × Value)} (I : Inv X pins σ H s) (ha : H a = some (dxO a es ep)) (hsm : (a == sysModules) = false) (hl : kvs'.length ≤ sizeLine)
    (hk : KX K kvs' xs') (dd : h'.DictOfH (nestedKind X.prog X.w) a xs') (hs : Heap.SameBut a s.heap h') :
    ∃ H', (∀ b, b ≠ a → H' b = H b) ∧ DX2 X.prog X.w kvs' a K H' ∧ Inv X pins σ H' { s with heap := h', toks := t' } := by
  obtain ⟨o, es', ep', h1, h2, h3, h4, _, h5⟩ := dd
  refine ⟨upd H a (dxO a es' ep'), fun b hb => upd_ne hb, ⟨es', ep', xs', upd_same, hsm, hl, h4, h5, hk⟩, ?_⟩
  exact I.write (x := a) (e := a) (o := dxO a es' ep') (by rw [ha]; exact True.intro) (.inl rfl) (fun b u hb q => (hs.2 b hb).trans q) ⟨o, h1⟩ (dxO_ok ⟨o, h1, h2, h3⟩)
def rPut2 (P : Program) (w : World) : TSet := fun o i v H Q => ∃ a kvs k K, o = .ref a ∧ Ex K H ∧ DX2 P w kvs a K H ∧ Im k i K ∧ isT k = true ∧ k.depth ≤ 8 ∧ kvs.length < sizeLine ∧
  ∀ H', (∀ b, b ≠ a → H' b = H b) → DX2 P w (putK kvs k v) a K H' → Q H'
theorem set_dx2 (hu : X.A.units + 64 < cLine) : PSet X (rPut2 X.prog X.w) := by
  intro pins s σ H o i v ov iv u Q I ro ri rv h
  obtain ⟨a, kvs, k, K, rfl, ex, hd, hk, ht, h8, hlt, q⟩ := h
  obtain ⟨es, ep, xs, ha, hsm, hl, hl2, kx, kx2, dd⟩ := hd.at_ I ex
  obtain ⟨b, rfl⟩ := isT_ref hk ht
  cases ro; cases ri
  refine wpAny_setItem_heap (hsz := hl2) (in1 hu X.w X.prog) (keyIs_of I (Im.mono hk ex) h8) dd fun h' dd' hs => ?_
  have hl' : (putK kvs k v).length ≤ sizeLine := by have := length_putK kvs k v; omega
  obtain ⟨H', k1, k3, I'⟩ := dx_write2 (t' := s.toks + (nestedKind X.prog X.w).draws k) I ha hsm hl' (kx.put k hk h8 rv) dd' hs
  exact ⟨H', I', q H' k1 k3⟩
def rPop2 (P : Program) (w : World) : V → List V → Hp → VK → Prop := fun x xs H Q => ∃ a kvs k y v K, x = .ref a ∧ xs = [y] ∧ Ex K H ∧ DX2 P w kvs a K H ∧ Im k y H ∧ isT k = true ∧ k.depth ≤ 8 ∧ valV kvs k = some v ∧
  ∀ H', (∀ b, b ≠ a → H' b = H b) → DX2 P w (dropK kvs k) a K H' → Q v H'
theorem mt_pop2 (hu : X.A.units + 64 < cLine) : MtR X "dict.pop" (rPop2 X.prog X.w) := by
  intro pins s σ H x xs v us Q I rx rxs h
  obtain ⟨a, kvs, k, y, z, K, rfl, rfl, ex, hd, hk, ht, h8, hv, q⟩ := h
  obtain ⟨es, ep, ks, ha, hsm, hl, hl2, kx, kx2, dd⟩ := hd.at_ I ex
  obtain ⟨b, rfl⟩ := isT_ref hk ht
  obtain ⟨u, rfl, ru⟩ := vals1 rxs
  cases rx; cases ru
  have rr := kx.val k
  rw [hv] at rr
  obtain ⟨u', eu, ru'⟩ := rr.some_of
  obtain ⟨p, hp, rfl⟩ := Option.map_eq_some_iff.mp eu
  refine call_pop_heap (hsz := hl2) (more := []) (.inl rfl) (PySem.F.args_dict_pop_2 _ _) (in1 hu X.w X.prog) (keyIs_of I hk h8) hsm dd hp fun h' dd' hs => ?_
  have hl' : (dropK kvs k).length ≤ sizeLine := Nat.le_trans (dropK_le kvs k) hl
  obtain ⟨H', k1, k3, I'⟩ := dx_write2 (t' := s.toks + (nestedKind X.prog X.w).draws k) I ha hsm hl' (kx.drop k) dd' hs
  exact ⟨z, H', I', ru', q H' k1 k3⟩
end

/-! ### entries by predicates -/
def lk {β : Type _} (l : List (D × β)) (k : D) : Option β := (l.find? fun kv => decide (kv.1 = k)).map (·.2)
def putP {β : Type _} (l : List (D × β)) (k : D) (v : β) : List (D × β) := if (l.any fun kv => decide (kv.1 = k)) = true then l.map (fun kv => if kv.1 = k then (kv.1, v) else kv) else l ++ [(k, v)]
inductive PX : List (D × VP) → List (D × V) → Hp → Prop where
  | nil {H : Hp} : PX [] [] H
  | cons {k : D} {P : VP} {v : V} {ps : List (D × VP)} {vs : List (D × V)} {H : Hp} (h : P.p v H) (t : PX ps vs H) : PX ((k, P) :: ps) ((k, v) :: vs) H
namespace PX
variable {ps : List (D × VP)} {vs : List (D × V)} {H H' : Hp}
theorem mono (e : Ex H H') (h : PX ps vs H) : PX ps vs H' := by
  induction h with
  | nil => exact .nil
  | @cons k P _ _ _ _ h t ih => exact .cons (P.mono e h) (ih e)
theorem length (h : PX ps vs H) : vs.length = ps.length := by
  induction h with
  | nil => rfl
  | cons h t ih => rw [List.length_cons, List.length_cons, ih]
theorem look (h : PX ps vs H) (k : D) : (lk ps k = none ∧ valV vs k = none) ∨ ∃ P v, lk ps k = some P ∧ valV vs k = some v ∧ P.p v H := by
  induction h with
  | nil => exact .inl ⟨rfl, rfl⟩
  | @cons j P v ps' vs' _ h t ih =>
    by_cases e : j = k
    · subst e
      exact .inr ⟨P, v, by simp [lk, List.find?_cons], by simp [valV, List.find?_cons], h⟩
    · have e1 : lk ((j, P) :: ps') k = lk ps' k := by simp only [lk, List.find?_cons, decide_eq_false e]
      have e2 : valV ((j, v) :: vs') k = valV vs' k := valV_neg (p := (j, v)) e
      rw [e1, e2]
      exact ih
theorem any (h : PX ps vs H) (k : D) : (ps.any fun kv => decide (kv.1 = k)) = (vs.any fun kv => decide (kv.1 = k)) := by
  induction h with
  | nil => rfl
  | cons h t ih => rw [List.any_cons, List.any_cons, ih]
theorem snoc (h : PX ps vs H) {k : D} {P : VP} {v : V} (hv : P.p v H) : PX (ps ++ [(k, P)]) (vs ++ [(k, v)]) H := by
  induction h with
  | nil => exact .cons hv .nil
  | cons h t ih => exact .cons h (ih hv)
theorem put (h : PX ps vs H) {k : D} {P : VP} {v : V} (hv : P.p v H) : PX (putP ps k P) (putK vs k v) H := by
  unfold putP putK
  rw [h.any k]
  by_cases q : (vs.any fun kv => decide (kv.1 = k)) = true
  · rw [if_pos q, if_pos q]
    clear q
    induction h with
    | nil => exact .nil
    | @cons j P' v' _ _ _ h t ih =>
      rw [List.map_cons, List.map_cons]
      by_cases e : j = k
      · rw [if_pos e, if_pos e]; exact .cons hv (ih hv)
      · rw [if_neg e, if_neg e]; exact .cons h (ih hv)
  · rw [if_neg q, if_neg q]; exact h.snoc hv
theorem drop (h : PX ps vs H) (k : D) : PX (ps.filter fun kv => decide (kv.1 ≠ k)) (dropK vs k) H := by
  unfold dropK
  induction h with
  | nil => exact .nil
  | @cons j P v _ _ _ h t ih =>
    rw [List.filter_cons, List.filter_cons]
    by_cases e : decide (j ≠ k) = true
    · rw [if_pos e, if_pos e]; exact .cons h ih
    · rw [if_neg e, if_neg e]; exact ih
theorem keys (h : PX ps vs H) : vs.map (·.1) = ps.map (·.1) := by
  induction h with
  | nil => rfl
  | cons h t ih => rw [List.map_cons, List.map_cons, ih]
theorem get (h : PX ps vs H) {i : Nat} {k : D} {v : V} (e : vs[i]? = some (k, v)) : ∃ P, ps[i]? = some (k, P) ∧ P.p v H := by
  induction h generalizing i with
  | nil => cases e
  | cons h t ih =>
    cases i with
    | zero => cases e; exact ⟨_, rfl, h⟩
    | succ j => exact ih e
end PX

section
variable (P : Program) (w : World)
def vX (ps : List (D × VP)) : VP := ⟨fun v H => ∃ a kvs, v = .ref a ∧ DX2 P w kvs a H H ∧ PX ps kvs H, fun e ⟨a, kvs, h1, h2, h3⟩ => ⟨a, kvs, h1, h2.stay (by
  obtain ⟨es, ep, xs, ha, _⟩ := h2
  exact (e a _ ha).trans ha.symm) e, h3.mono e⟩⟩
def oX (ps : List (D × VP)) : OP where
  p := fun a H K => ∃ kvs, DX2 P w kvs a K H ∧ PX ps kvs K
  vp := vX P w ps
  st := fun e k ⟨kvs, h1, h2⟩ => ⟨kvs, h1.stay e k, h2.mono k⟩
  out := fun k e ⟨kvs, h1, h2⟩ => ⟨_, kvs, rfl, h1.stay e k, h2.mono k⟩
  dom := fun ⟨kvs, ⟨es, ep, xs, ha, _⟩, _⟩ => by rw [ha]; exact fun z => nomatch z
end
def oL (ps : List VP) : OP where
  p := fun a H K => ∃ vs, H a = some (.lst vs) ∧ AllP ps vs K
  vp := vL ps
  st := fun e k ⟨vs, h1, h2⟩ => ⟨vs, e.trans h1, h2.mono k⟩
  out := fun k e ⟨vs, h1, h2⟩ => ⟨_, vs, rfl, e.trans h1, h2.mono k⟩
  dom := fun ⟨vs, h1, _⟩ => by rw [h1]; exact fun z => nomatch z
/-! instances -/
inductive FP : List (Str × VP) → List (Str × V) → Hp → Prop where
  | nil {H : Hp} : FP [] [] H
  | cons {k : Str} {P : VP} {v : V} {ps : List (Str × VP)} {vs : List (Str × V)} {H : Hp} (h : P.p v H) (t : FP ps vs H) : FP ((k, P) :: ps) ((k, v) :: vs) H
theorem FP.mono {ps : List (Str × VP)} {vs : List (Str × V)} {H H' : Hp} (e : Ex H H') (h : FP ps vs H) : FP ps vs H' := by
  induction h with
  | nil => exact .nil
  | @cons k P _ _ _ _ h t ih => exact .cons (P.mono e h) (ih e)
theorem FP.look {ps : List (Str × VP)} {vs : List (Str × V)} {H : Hp} (h : FP ps vs H) {k : Str} {P : VP} (e : ps.lookup k = some P) : ∃ v, vs.lookup k = some v ∧ P.p v H := by
  induction h with
  | nil => cases e
  | @cons j P' v _ _ _ h t ih =>
    rw [List.lookup_cons] at e ⊢
    cases q : k == j with
    | true => rw [q] at e; cases e; exact ⟨v, rfl, h⟩
    | false => rw [q] at e; exact ih e
def vI (C : Addr) (fs : List (Str × VP)) : VP := ⟨fun v H => ∃ a dx vs, v = .ref a ∧ H a = some (.ins C dx vs) ∧ FP fs vs H, fun e ⟨a, dx, vs, h1, h2, h3⟩ => ⟨a, dx, vs, h1, e a _ h2, h3.mono e⟩⟩
def putFP (f : Str) (v : VP) : List (Str × VP) → List (Str × VP)
  | [] => [(f, v)]
  | (g, x) :: r => if g = f then (g, v) :: r else (g, x) :: putFP f v r
theorem FP.put {ps : List (Str × VP)} {vs : List (Str × V)} {H : Hp} (h : FP ps vs H) {f : Str} {P : VP} {v : V} (hv : P.p v H) : FP (putFP f P ps) (putF f v vs) H := by
  induction h with
  | nil => exact .cons hv .nil
  | @cons j P' v' _ _ _ h t ih =>
    unfold putFP putF
    by_cases e : j = f
    · rw [if_pos e, if_pos e]; exact .cons hv t
    · rw [if_neg e, if_neg e]; exact .cons h (ih hv)
def oIns (C dx : Addr) (fs : List (Str × VP)) : OP where
  p := fun a H K => ∃ vs, H a = some (.ins C dx vs) ∧ FP fs vs K ∧ vs.length = fs.length
  vp := vI C fs
  st := fun e k ⟨vs, h1, h2, h3⟩ => ⟨vs, e.trans h1, h2.mono k, h3⟩
  out := fun k e ⟨vs, h1, h2, _⟩ => ⟨_, dx, vs, rfl, e.trans h1, h2.mono k⟩
  dom := fun ⟨vs, h1, _⟩ => by rw [h1]; exact fun z => nomatch z

/-! ### reading -/
section
variable {F : Fm} {Γ : Ct} {P : Program} {w : World}
def RdX (F : Fm) (P : Program) (w : World) (Γ : Ct) (Pv : VP) (ps : List (D × VP)) : Prop := ∀ (σ : L2.St) (H : Hp) (v : V), Env F Γ σ H → Pv.p v (F.vw Γ H) → ∃ kvs, DX P w kvs v H ∧ PX ps kvs (F.vw Γ H)
def RdL (F : Fm) (Γ : Ct) (Pv : VP) (ps : List VP) : Prop := ∀ (σ : L2.St) (H : Hp) (v : V), Env F Γ σ H → Pv.p v (F.vw Γ H) → ∃ a vs, v = .ref a ∧ H a = some (.lst vs) ∧ AllP ps vs (F.vw Γ H)
theorem rdx (ps : List (D × VP)) : RdX F P w Γ (vX P w ps) ps := fun σ H v E ⟨a, kvs, h1, h2, h3⟩ => ⟨kvs, by
  subst h1
  refine DX2.dx (K := F.vw Γ H) ?_ (hid_ex _ _)
  exact h2.stay (by
    obtain ⟨es, ep, xs, ha, _⟩ := h2
    exact (hid_ex _ _ a _ ha).trans ha.symm) (Ex.refl _), h3⟩
theorem rdl (ps : List VP) : RdL F Γ (vL ps) ps := fun σ H v E ⟨a, vs, h1, h2, h3⟩ => ⟨a, vs, h1, hid_ex _ _ a _ h2, h3⟩
theorem own_at {σ : L2.St} {H : Hp} {p : Addr} {O : OP} {j : Nat} (E : Env F Γ σ H) (h : Γ.own[j]? = some (p, O)) : O.p p H (F.vw Γ H) := E.own (p, O) (List.mem_of_getElem? h)
theorem rdxO {p : Addr} {ps : List (D × VP)} (j : Nat) (h : Γ.own[j]? = some (p, oX P w ps) := by rfl) : RdX F P w Γ (vE (.ref p)) ps := fun σ H v E hv => by
  obtain ⟨kvs, h1, h2⟩ := own_at E h
  cases (show v = .ref p from hv)
  exact ⟨kvs, h1.dx (hid_ex _ _), h2⟩
theorem rdlO {p : Addr} {ps : List VP} (j : Nat) (h : Γ.own[j]? = some (p, oL ps) := by rfl) : RdL F Γ (vE (.ref p)) ps := fun σ H v E hv => by
  obtain ⟨vs, h1, h2⟩ := own_at E h
  cases (show v = .ref p from hv)
  exact ⟨p, vs, rfl, h1, h2⟩
end

/-! ### indexes, fields -/
section
variable {F : Fm} {X : Cx} {Γ : Ct} {pos : Pos} {a b : Expr} {P Pa Pb : VP} {n : Nat}
theorem je_ix {r : R2} (hr : IxR X r) (ha : JE F X Γ a Pa) (hb : JE F X Γ b Pb) (g : G2 F Γ r Pa Pb P) (hs : PlainIx b := by intro _ _; rfl) : JE F X Γ (.Subscript a b pos) P := je_of (pe_ix hr pE pE hs) (re_op ha hb g)
theorem atI_all {ps : List VP} {vs : List V} {K : Hp} (h : AllP ps vs K) {i : Int} {P : VP} (e : atI ps i = some P) : ∃ v, atI vs i = some v ∧ P.p v K := by
  unfold atI at e ⊢
  rw [h.length]
  cases q : ixN ps.length i with
  | none => rw [q] at e; cases e
  | some j => rw [q] at e; exact h.get e
theorem atI_map {α β : Type _} (f : α → β) (l : List α) (i : Int) : atI (l.map f) i = (atI l i).map f := by
  unfold atI
  rw [List.length_map]
  cases ixN l.length i with
  | none => rfl
  | some j => exact List.getElem?_map ..
theorem g2_ixT {ps : List VP} {i : Int} (e : atI ps i = some P) : G2 F Γ (rIxT X.K) (vT ps) (vZ i) P := fun σ H x y Q E ⟨p, vs, hx, hp, hv⟩ hy k => by
  obtain ⟨v, e1, e2⟩ := atI_all hv e
  exact ⟨p, vs, i, v, hx, vD_num.mp hy, SqT.of (hid_ex _ _ _ _ hp), e1, kt_here k e2⟩
theorem je_ixP {ps : List VP} {i : Int} (ha : JE F X Γ a (vT ps)) (hb : JE F X Γ b (vZ i)) (e : atI ps i = some P) (hs : PlainIx b := by intro _ _; rfl) : JE F X Γ (.Subscript a b pos) P := je_ix ix_tup ha hb (g2_ixT e) hs
theorem je_tD {e : Expr} {ds : List D} (h : JE F X Γ e (vD (.tup ds))) : JE F X Γ e (vT (ds.map vD)) := je_imp h fun v H => vT_D.mpr
theorem je_Dt {e : Expr} {ds : List D} (h : JE F X Γ e (vT (ds.map vD))) : JE F X Γ e (vD (.tup ds)) := je_imp h fun v H => vT_D.mp
theorem je_ixT {ds : List D} {i : Int} {d : D} (ha : JE F X Γ a (vD (.tup ds))) (hb : JE F X Γ b (vZ i)) (e : atI ds i = some d) (hs : PlainIx b := by intro _ _; rfl) : JE F X Γ (.Subscript a b pos) (vD d) := je_ixP (je_tD ha) hb (by rw [atI_map, e]; rfl) hs
theorem je_ixL {ps : List VP} {i : Int} (hr : RdL F Γ Pa ps) (ha : JE F X Γ a Pa) (hb : JE F X Γ b (vZ i)) (e : atI ps i = some P) (hs : PlainIx b := by intro _ _; rfl) : JE F X Γ (.Subscript a b pos) P :=
  je_ix ix_list ha hb (fun σ H x y Q E hx hy k => by
    obtain ⟨p, vs, h1, hp, hv⟩ := hr σ H x E hx
    obtain ⟨v, e1, e2⟩ := atI_all hv e
    exact ⟨p, vs, i, v, h1, vD_num.mp hy, SqL.of hp, e1, kt_here k e2⟩) hs
theorem g2_ixX {ps : List (D × VP)} {k : D} (hr : RdX F X.prog X.w Γ Pa ps) (e : lk ps k = some P) (ht : isT k = true) (h8 : k.depth ≤ 8) : G2 F Γ (rIxX X.prog X.w) Pa (vD k) P := fun σ H x y Q E hx hy kk => by
  obtain ⟨kvs, hd, hp⟩ := hr σ H x E hx
  rcases hp.look k with ⟨n1, _⟩ | ⟨P', v, e1, e2, e3⟩
  · rw [n1] at e; cases e
  · rw [e1] at e
    cases e
    exact ⟨kvs, k, v, hd, Im.mono hy (hid_ex _ _), ht, h8, e2, kt_here kk e3⟩
theorem je_ixX {ps : List (D × VP)} {k : D} (hr : Room n X.A) (rd : RdX F X.prog X.w Γ Pa ps) (ha : JE F X Γ a Pa) (hb : JE F X Γ b (vD k)) (e : lk ps k = some P) (ht : isT k = true := by rfl) (h8 : k.depth ≤ 8 := by exact Nat.le_of_ble_eq_true rfl) (hs : PlainIx b := by intro _ _; rfl) : JE F X Γ (.Subscript a b pos) P := je_ix (ix_dx hr.units) ha hb (g2_ixX rd e ht h8) hs
theorem je_fld {C : Addr} {fs : List (Str × VP)} {f : Str} (ha : JE F X Γ a (vI C fs)) (hc : Cls X.K C) (hn : NoAttr X.K C f) (e : fs.lookup f = some P := by rfl) (hb : attributeBase a f X.env (eval a X.env) = eval a X.env := by rfl) : JE F X Γ (.Attribute a f pos) P :=
  je_of (pe_fld pE hb) fun σ H Q E k => ha σ H _ E fun v H1 s1 ⟨x, dx, vs, h1, h2, h3⟩ => by
    obtain ⟨y, e1, e2⟩ := h3.look e
    exact ⟨x, C, dx, vs, y, h1, hid_ex _ _ _ _ h2, hc, hn, e1, k y H1 s1 e2⟩
/-! is it in -/
theorem je_inX {ps : List (D × VP)} {k : D} (hr : Room n X.A) (rd : RdX F X.prog X.w Γ Pb ps) (ha : JE F X Γ a (vD k)) (hb : JE F X Γ b Pb) (ht : isT k = true := by rfl) (h8 : k.depth ≤ 8 := by exact Nat.le_of_ble_eq_true rfl) (hm : behindInMarks .In b = false := by rfl) : JE F X Γ (.Compare a [.In] [b] pos) (vB (lk ps k).isSome) :=
  je_cmp (op_inX hr.units) ha hb (fun σ H x y Q E hx hy kk => by
    obtain ⟨kvs, hd, hp⟩ := rd σ H y E hy
    refine ⟨kvs, k, hd, Im.mono hx (hid_ex _ _), ht, h8, kt_here kk ?_⟩
    rcases hp.look k with ⟨n1, n2⟩ | ⟨P', v, e1, e2, _⟩
    · rw [n1, n2]; rfl
    · rw [e1, e2]; rfl) hm
theorem je_notInX {ps : List (D × VP)} {k : D} (hr : Room n X.A) (rd : RdX F X.prog X.w Γ Pb ps) (ha : JE F X Γ a (vD k)) (hb : JE F X Γ b Pb) (ht : isT k = true := by rfl) (h8 : k.depth ≤ 8 := by exact Nat.le_of_ble_eq_true rfl) (hm : behindInMarks .NotIn b = false := by rfl) : JE F X Γ (.Compare a [.NotIn] [b] pos) (vB (!(lk ps k).isSome)) :=
  je_cmp (op_notInX hr.units) ha hb (fun σ H x y Q E hx hy kk => by
    obtain ⟨kvs, hd, hp⟩ := rd σ H y E hy
    refine ⟨kvs, k, hd, Im.mono hx (hid_ex _ _), ht, h8, kt_here kk ?_⟩
    rcases hp.look k with ⟨n1, n2⟩ | ⟨P', v, e1, e2, _⟩
    · rw [n1, n2]; rfl
    · rw [e1, e2]; rfl) hm
theorem jt_inX {ps : List (D × VP)} {k : D} (hr : Room n X.A) (rd : RdX F X.prog X.w Γ Pb ps) (ha : JE F X Γ a (vD k)) (hb : JE F X Γ b Pb) (ht : isT k = true := by rfl) (h8 : k.depth ≤ 8 := by exact Nat.le_of_ble_eq_true rfl) (hm : behindInMarks .In b = false := by rfl) : JT F X Γ (.Compare a [.In] [b] pos) (· = (lk ps k).isSome) :=
  jt_cmp (op_inX hr.units) ha hb (fun σ H x y Q E hx hy kk => by
    obtain ⟨kvs, hd, hp⟩ := rd σ H y E hy
    refine ⟨kvs, k, hd, Im.mono hx (hid_ex _ _), ht, h8, kt_here kk ?_⟩
    rcases hp.look k with ⟨n1, n2⟩ | ⟨P', v, e1, e2, _⟩
    · rw [n1, n2]; rfl
    · rw [e1, e2]; rfl) hm
theorem jt_notInX {ps : List (D × VP)} {k : D} (hr : Room n X.A) (rd : RdX F X.prog X.w Γ Pb ps) (ha : JE F X Γ a (vD k)) (hb : JE F X Γ b Pb) (ht : isT k = true := by rfl) (h8 : k.depth ≤ 8 := by exact Nat.le_of_ble_eq_true rfl) (hm : behindInMarks .NotIn b = false := by rfl) : JT F X Γ (.Compare a [.NotIn] [b] pos) (· = !(lk ps k).isSome) :=
  jt_cmp (op_notInX hr.units) ha hb (fun σ H x y Q E hx hy kk => by
    obtain ⟨kvs, hd, hp⟩ := rd σ H y E hy
    refine ⟨kvs, k, hd, Im.mono hx (hid_ex _ _), ht, h8, kt_here kk ?_⟩
    rcases hp.look k with ⟨n1, n2⟩ | ⟨P', v, e1, e2, _⟩
    · rw [n1, n2]; rfl
    · rw [e1, e2]; rfl) hm
theorem all_lst {ds : List D} {ps : List VP} {vs : List V} {K : Hp} (he : ps = ds.map vD) (h : AllP ps vs K) : ImAll ds vs K := by subst he; exact allP_D.mp h
theorem je_inL {ds : List D} {k : D} (hr : Room n X.A) (rd : RdL F Γ Pb (ds.map vD)) (ha : JE F X Γ a (vD k)) (hb : JE F X Γ b Pb) (h1 : fine k = true) (h2 : SeqAt.shaped (.list (NestedKey.datas ds)) = true) (hm : behindInMarks .In b = false := by rfl) : JE F X Γ (.Compare a [.In] [b] pos) (vB (decide (k ∈ ds))) :=
  je_cmp (op_inL (by have := hr.un; omega)) ha hb (fun σ H x y Q E hx hy kk => by
    obtain ⟨p, vs, hy1, hp, hv⟩ := rd σ H y E hy
    exact ⟨k, ds, p, vs, Im.mono hx (hid_ex _ _), hy1, hp, (allP_D.mp hv).mono (hid_ex _ _), h1, h2, kt_here kk rfl⟩) hm
theorem jt_notInL {ds : List D} {k : D} (hr : Room n X.A) (rd : RdL F Γ Pb (ds.map vD)) (ha : JE F X Γ a (vD k)) (hb : JE F X Γ b Pb) (h1 : fine k = true) (h2 : SeqAt.shaped (.list (NestedKey.datas ds)) = true) (hm : behindInMarks .NotIn b = false := by rfl) : JT F X Γ (.Compare a [.NotIn] [b] pos) (· = !decide (k ∈ ds)) :=
  jt_cmp (op_notInL (by have := hr.un; omega)) ha hb (fun σ H x y Q E hx hy kk => by
    obtain ⟨p, vs, hy1, hp, hv⟩ := rd σ H y E hy
    exact ⟨k, ds, p, vs, Im.mono hx (hid_ex _ _), hy1, hp, (allP_D.mp hv).mono (hid_ex _ _), h1, h2, kt_here kk rfl⟩) hm
end

/-! ### new tuples, lists, dicts -/
section
variable {F : Fm} {X : Cx} {Γ : Ct} {pos : Pos} {a b : Expr} {es : List Expr} {P : VP} {Ps : List VP} {n : Nat}
theorem vw_upd {F : Fm} {Γ : Ct} {σ : L2.St} {H : Hp} {p : Addr} {o : HO} (E : Env F Γ σ H) (hp : H p = none) : F.vw Γ (upd H p o) p = some o := by
  show hid _ _ _ = _
  rw [hid_in (E.fresh hp)]
  exact upd_same
theorem step_new {F : Fm} {Γ : Ct} {σ : L2.St} {H : Hp} {p : Addr} {o : HO} (E : Env F Γ σ H) (hp : H p = none) : Step F.T (F.S Γ.own) H (upd H p o) := E.ex (Ex.new hp)
/-- a new thing hidden -/
theorem S_add {F : Fm} {l : List (Addr × OP)} {p : Addr} {O : OP} {a : Addr} : F.S (l ++ [(p, O)]) a = true ↔ F.S l a = true ∨ a = p := by
  rw [Fm.S_or, Fm.S_or, List.map_append, List.mem_append]
  constructor
  · rintro (h | h | h)
    · exact .inl (.inl h)
    · exact .inl (.inr h)
    · exact .inr (by simpa using h)
  · rintro ((h | h) | h)
    · exact .inl h
    · exact .inr (.inl h)
    · exact .inr (.inr (by simp [h]))
theorem view_add {F : Fm} {l : List (Addr × OP)} {p : Addr} {O : OP} {H H' : Hp} (hp : H p = none) (h : Ex (hid (F.S l) H) (hid (F.S l) H')) : Ex (hid (F.S l) H) (hid (F.S (l ++ [(p, O)])) H') := fun a u e => by
  have ne : a ≠ p := fun z => by subst z; rw [hid_ex _ _ _ _ e] at hp; cases hp
  have q : F.S l a = false := by
    cases q : F.S l a with
    | false => rfl
    | true => rw [hid_out q] at e; cases e
  have q2 : F.S (l ++ [(p, O)]) a = false := by
    cases z : F.S (l ++ [(p, O)]) a with
    | false => rfl
    | true =>
      rcases S_add.mp z with z | z
      · rw [z] at q; cases q
      · exact absurd z ne
  have := h a u e
  rw [hid_in q] at this
  rw [hid_in q2]
  exact this
theorem ex_upd {S : Addr → Bool} {H : Hp} {p : Addr} {o : HO} (hp : H p = none) : Ex (hid S H) (hid S (upd H p o)) := fun a u e => by
  have ne : a ≠ p := fun z => by subst z; rw [hid_ex _ _ _ _ e] at hp; cases hp
  cases q : S a with
  | true => rw [hid_out q] at e; cases e
  | false =>
    rw [hid_in q] at e ⊢
    rw [upd_ne ne]; exact e
theorem none_back {F : Fm} {Γ : Ct} {σ : L2.St} {H H1 : Hp} {p : Addr} (E : Env F Γ σ H) (s : Step F.T (F.S Γ.own) H H1) (hp : H1 p = none) : H p = none := by
  cases q : H p with
  | none => rfl
  | some o =>
    exfalso
    cases z : F.S Γ.own p with
    | true => exact (E.go s).hdom z hp
    | false =>
      have := s.ex p o (by rw [hid_in z]; exact q)
      rw [hid_in z, hp] at this
      cases this
theorem je_tup {x1} (h : JA F X Γ es Ps) (hl : Ps.length ≤ sizeLine := by exact Nat.le_of_ble_eq_true rfl) : JE F X Γ (.Tuple es x1 pos) (vT Ps) :=
  je_of (pe_tup pA) fun σ H Q E k => h σ H _ E fun vs H1 s1 ps => ⟨by rw [ps.length]; exact hl, fun p hp => k _ _ (s1.trans (step_new (E.go s1) hp)) ⟨p, vs, rfl, vw_upd (E.go s1) hp, ps.mono (step_new (E.go s1) hp).ex⟩⟩
theorem je_tupD {x1} {ds : List D} (h : JA F X Γ es (ds.map vD)) (hl : ds.length ≤ sizeLine := by exact Nat.le_of_ble_eq_true rfl) : JE F X Γ (.Tuple es x1 pos) (vD (.tup ds)) := je_Dt (je_tup h (by rw [List.length_map]; exact hl))
theorem jn_lst (h : JA F X Γ es Ps) (hl : Ps.length ≤ sizeLine := by exact Nat.le_of_ble_eq_true rfl) : JN F X Γ (.List es pos) (oL Ps) :=
  jn_of (pe_lst pA) fun σ H Q E k => h σ H _ E fun vs H1 s1 ps => ⟨by rw [ps.length]; exact hl, fun p hp => k p _ (s1.trans (step_new (E.go s1) hp)) (none_back E s1 hp) ⟨vs, upd_same, ps.mono (view_add hp (ex_upd hp))⟩⟩
end
end Lk
end

section
set_option Elab.async false
set_option linter.all false
set_option maxRecDepth 100000
set_option maxHeartbeats 1000000
/-! list, tuple, sorted of dicts and lists; the least of data. -/
namespace Lk
open PySem PySem.Spec L2
open PyProof.Rows hiding St
open Evl (Ex)
open PySem.W (KdlSrc EachIs)
section
variable {X : Cx} {pins : List (Addr × Obj)} {σ : L2.St} {H K : Hp} {s : Shared}
/-- the keys as values -/
theorem keys_vals {P : Program} {w : World} {kvs : List (D × V)} {xs : List (D × Addr × Value)} (r : KX K kvs xs) : ImAll (kvs.map (·.1)) (xs.map fun x => V.ref x.2.1) K := by
  induction r with
  | nil => exact imAll_nil.mpr rfl
  | cons h t ih => exact imAll_cons.mpr ⟨_, _, rfl, h.2.1, ih⟩
theorem vals_refsX : ∀ xs : List (D × Addr × Value), Vals (xs.map fun x => V.ref x.2.1) (xs.map fun x => Value.ref x.2.1)
  | [] => .nil
  | _ :: r => .cons rfl (vals_refsX r)
theorem src_keys {es : Array DictEntry} {xs : List (D × Addr × Value)} (he : es.toList = xs.map (entryOfKey (nestedKind X.prog X.w))) {acc : List Value} (hl : acc.length = es.size) (h : ∀ (j : Nat) (v : Value), acc[j]? = some v → ∃ en : DictEntry, es[j]? = some en ∧ v = en.key) : acc = xs.map fun x => Value.ref x.2.1 := by
  have l1 : es.size = xs.length := size_of_entries he
  apply List.ext_getElem?
  intro j
  rw [List.getElem?_map]
  cases hj : acc[j]? with
  | none =>
    have h1 := List.getElem?_eq_none_iff.mp hj
    rw [List.getElem?_eq_none (by omega)]
    rfl
  | some v =>
    obtain ⟨en, hen, hv⟩ := h j v hj
    have qe := entry_at he j
    rw [hen] at qe
    cases hb : xs[j]? with
    | none =>
      rw [hb] at qe
      exact nomatch (show some en = none from qe)
    | some b =>
      rw [hb] at qe
      have e2 : en = entryOfKey (nestedKind X.prog X.w) b := Option.some.inj qe
      rw [hv, e2]
      rfl
/-- what list and tuple of a dict ask -/
theorem DX2.src {a : Addr} {kvs : List (D × V)} (I : Inv X pins σ H s) (h : DX2 X.prog X.w kvs a K H) : ∃ (o : Obj) (es : Array DictEntry) (ep : Nat) (xs : List (D × Addr × Value)), s.heap.get? a = some o ∧ o.ExactDict ∧ o.data = .dict es ep ∧ (a == sysModules) = false ∧
    es.toList = xs.map (entryOfKey (nestedKind X.prog X.w)) ∧ KX K kvs xs ∧ es.size ≤ sizeLine := by
  obtain ⟨es, ep, xs, ha, hs, hl, he, hn, hk⟩ := h
  obtain ⟨o, h1, h2, h3⟩ := (I.hok a _ ha).1
  refine ⟨o, es, ep, xs, h1, h2, h3, hs, he, hk, ?_⟩
  rw [size_of_entries he, ← Paired.length hk]
  exact hl
def rListX (P : Program) (w : World) : List V → Hp → VK → Prop := fun xs H Q => ∃ a kvs K, xs = [.ref a] ∧ Ex K H ∧ DX2 P w kvs a K H ∧ ∀ p vs, H p = none → ImAll (kvs.map (·.1)) vs K → Q (.ref p) (upd H p (.lst vs))
theorem call_listX (hc : X.calm = true) : CallR X (.type "list") (rListX X.prog X.w) := by
  intro pins s σ H xs us Q I r h
  obtain ⟨a, kvs, K, rfl, ex, hd, q⟩ := h
  obtain ⟨u, rfl, ru⟩ := vals1 r
  cases ru
  obtain ⟨o, es, ep, xs, h1, h2, h3, h4, h5, h6, h7⟩ := hd.src I
  refine PySem.W.kdl_call (kdl_raw h4 h2 h3) (I.ok.hd hc) h1 h7 fun h' tk acc' c' kp e it => ?_
  have ea := src_keys h5 (acc := acc'.toList) (by rw [Array.length_toList]; exact it.1) fun j v hj => it.2 j v (by rw [← Array.getElem?_toList]; exact hj)
  have hz : (xs.map fun x => V.ref x.2.1).length ≤ sizeLine := by rw [List.length_map, ← size_of_entries h5]; exact h7
  exact ⟨.ref s.heap.objs.size, _, I.laid (t' := tk) (o := .lst (xs.map fun x => V.ref x.2.1)) kp (Nat.le_refl _) ⟨hz, acc'.toList, c', by rw [ea]; exact vals_refsX xs, by rw [Array.toArray_toList]; exact e⟩, rfl, q _ _ (I.hok.fresh (Nat.le_refl _)) (keys_vals (P := X.prog) (w := X.w) h6)⟩
def rTupX (P : Program) (w : World) : List V → Hp → VK → Prop := fun xs H Q => ∃ a kvs K, xs = [.ref a] ∧ Ex K H ∧ DX2 P w kvs a K H ∧ ∀ p vs, H p = none → ImAll (kvs.map (·.1)) vs K → Q (.ref p) (upd H p (.tup vs))
theorem call_tupX (hc : X.calm = true) : CallR X (.type "tuple") (rTupX X.prog X.w) := by
  intro pins s σ H xs us Q I r h
  obtain ⟨a, kvs, K, rfl, ex, hd, q⟩ := h
  obtain ⟨u, rfl, ru⟩ := vals1 r
  cases ru
  obtain ⟨o, es, ep, xs, h1, h2, h3, h4, h5, h6, h7⟩ := hd.src I
  refine call_tuple_src (kdl_raw h4 h2 h3) (I.ok.hd hc) h1 h7 fun h' tk acc kp it => ?_
  have ea := src_keys h5 (acc := acc.toList) (by rw [Array.length_toList]; exact it.1) fun j v hj => it.2 j v (by rw [← Array.getElem?_toList]; exact hj)
  have hz : (xs.map fun x => V.ref x.2.1).length ≤ sizeLine := by rw [List.length_map, ← size_of_entries h5]; exact h7
  have hn : s.heap.get? h'.objs.size = none := none_of_keeps kp (Nat.le_refl _)
  refine ⟨.ref h'.objs.size, _, laid2 (t' := tk) (o := .tup (xs.map fun x => V.ref x.2.1)) I (fun b u e => Heap.get?_push_of_some _ (kp b u e)) hn ⟨hz, acc.toList, by rw [ea]; exact vals_refsX xs, ?_⟩, rfl, q _ _ (H_none I hn) (keys_vals (P := X.prog) (w := X.w) h6)⟩
  rw [Array.toArray_toList]
  exact IsTup.new _ _
theorem each_of {K : Hp} : ∀ {ts : List Thg} {vs : List V} {us : List Value}, Vals vs us → ImAll (ts.map encT) vs K → EachIs (Stands K) us ts := fun r h => stands_all r h
/-- sorted(d), the keys are things -/
def rSortX (P : Program) (w : World) : List V → Hp → VK → Prop := fun xs H Q => ∃ a kvs ts K, xs = [.ref a] ∧ Ex K H ∧ DX2 P w kvs a K H ∧ kvs.map (·.1) = ts.map encT ∧ ∀ p vs, H p = none → ImAll ((srt ts).map encT) vs K → Q (.ref p) (upd H p (.lst vs))
theorem call_sortX (hc : X.calm = true) (hu : X.A.units + 128 < cLine) : CallR X (.builtin "sorted") (rSortX X.prog X.w) := by
  intro pins s σ H xs us Q I r h
  obtain ⟨a, kvs, ts, K, rfl, ex, hd, hts, q⟩ := h
  obtain ⟨u, rfl, ru⟩ := vals1 r
  cases ru
  obtain ⟨o, es, ep, xs, h1, h2, h3, h4, h5, h6, h7⟩ := hd.src I
  refine call_sorted_src (kdl_raw h4 h2 h3) (I.ok.hd hc) h1 h7 fun h' tk acc kp hl it => ?_
  have ea := src_keys h5 hl it
  have hk := keys_vals (P := X.prog) (w := X.w) h6
  rw [hts] at hk
  have lt : ts.length = acc.length := by
    have := Paired.length h6
    have e1 : (kvs.map (·.1)).length = (ts.map encT).length := by rw [hts]
    rw [List.length_map, List.length_map] at e1
    rw [ea, List.length_map]
    omega
  refine things_sort (K := K) (A := X.A.in1) I kp ex (ea ▸ each_of (vals_refsX xs) hk) (by rw [lt, hl]; exact h7) (by show X.A.units + 1 + 64 < cLine; omega) fun h2' vs k2 hv I2 => ?_
  have hn : s.heap.get? h'.objs.size = none := none_of_keeps kp (Nat.le_refl _)
  exact ⟨.ref h'.objs.size, _, I2, rfl, q _ _ (H_none I hn) hv⟩
/-- sorted(xs), a list of things -/
def rSortL : List V → Hp → VK → Prop := fun xs H Q => ∃ a ws ts K, xs = [.ref a] ∧ Ex K H ∧ H a = some (.lst ws) ∧ ImAll (ts.map encT) ws K ∧ ∀ p vs, H p = none → ImAll ((srt ts).map encT) vs K → Q (.ref p) (upd H p (.lst vs))
theorem call_sortL (hu : X.A.units + 128 < cLine) : CallR X (.builtin "sorted") rSortL := by
  intro pins s σ H xs us Q I r h
  obtain ⟨a, ws, ts, K, rfl, ex, ha, hw, q⟩ := h
  obtain ⟨u, rfl, ru⟩ := vals1 r
  cases ru
  obtain ⟨its, rv, hl, hz⟩ := I.list (SqL.of (K := X.K) ha)
  have e := each_of rv hw
  have hlen : ts.length = its.length := e.length.symm
  refine PySem.W.sorted_data (R := Stands K) (enc := fun t : Thg => (encT t).data) hl.isList e ((stands_reads I (fun _ _ q => q) (e.mono fun _ _ ⟨v, r, hv⟩ => ⟨v, r, hv.mono ex⟩)).mono fun _ _ r => ⟨[], r⟩) (things_alike ts) (things_sortable ts) (by rw [hlen, ← rv.length]; exact hz) (fun b _ => by show X.A.units + 2 + 1 < cLine; omega) fun out hl2 eo => ?_
  rw [thLe_data] at eo
  obtain ⟨vs, rv2, hv⟩ := stands_back eo
  obtain ⟨ep, he'⟩ := PyProof.Rows.sortedAll_at s.heap its out.toArray
  have hlen2 : vs.length ≤ sizeLine := by rw [rv2.length, hl2, hlen, ← rv.length]; exact hz
  exact ⟨.ref _, upd H (s.heap.objs.size + 1) (.lst vs), I.laid (t' := s.toks) (fun _ _ => PyProof.Rows.sortedAll_old) (Nat.le_succ _) ⟨hlen2, out, ep, rv2, he'⟩, rfl, q _ vs (I.hok.fresh (Nat.le_succ _)) hv⟩
end
/-! what reads as data reads as one -/
mutual
theorem reads_one {h : Heap} : ∀ (d : D) {u : Value} {e : PyData} {as bs : List Addr}, Reads h u d.data as → Reads h u e bs → e = d.data
  | .none, _, _, _, _, r, r' => by cases r; cases r'; rfl
  | .num i, _, _, _, _, r, r' => by cases r; cases r'; rfl
  | .text x, _, _, _, _, r, r' => by cases r; cases r'; rfl
  | .tup ds, _, e, _, _, r, r' => by
    rw [NestedKey.data] at r ⊢
    cases r with
    | tuple h1 h2 h3 h4 =>
      cases r' with
      | tuple g1 g2 g3 g4 =>
        rw [h1] at g1
        cases g1
        rw [h3] at g3
        cases g3
        rw [reads_ones ds h4 g4]
      | list g1 g2 g3 g4 => rw [h1] at g1; cases g1; rw [h2] at g2; exact absurd g2 (by decide)
      | dict g1 g2 g3 g4 g5 => rw [h1] at g1; cases g1; rw [h2] at g2; exact absurd g2 (by decide)
theorem reads_ones {h : Heap} : ∀ (ds : List D) {us : List Value} {es : List PyData} {as bs : List Addr}, ReadsAll h us (NestedKey.datas ds) as → ReadsAll h us es bs → es = NestedKey.datas ds
  | [], _, _, _, _, r, r' => by rw [NestedKey.datas] at r; cases r; cases r'; rfl
  | d :: ds, _, _, _, _, r, r' => by
    rw [NestedKey.datas] at r ⊢
    cases r with
    | cons a b =>
      cases r' with
      | cons a' b' => rw [reads_one d a a', reads_ones ds b b']
end
theorem data_inj {d e : D} (h : d.data = e.data) : d = e := by
  have := data_eq d e
  rw [← h, data_eq d d] at this
  simpa using this.symm
section
variable {X : Cx}
/-- min(xs), a list of alike data -/
def rMinD : List V → Hp → VK → Prop := fun xs H Q => ∃ a ws d ds K, xs = [.ref a] ∧ Ex K H ∧ H a = some (.lst ws) ∧ ImAll (d :: ds) ws K ∧ PySem.W.AlikeAll ((d :: ds).map NestedKey.data) ∧ (∀ e ∈ d :: ds, e.depth ≤ 60) ∧
  ∀ e v, e ∈ d :: ds → e.data = PySem.W.minD d.data (ds.map NestedKey.data) → Im e v K → Q v H
theorem call_minD (hc : X.calm = true) (hu : X.A.units + 128 < cLine) : CallR X (.builtin "min") rMinD := by
  intro pins s σ H xs us Q I r h
  obtain ⟨a, ws, d, ds, K, rfl, ex, ha, hw, hal, h8, q⟩ := h
  obtain ⟨u, rfl, ru⟩ := vals1 r
  cases ru
  obtain ⟨its, rv, hl, hz⟩ := I.list (SqL.of (K := X.K) ha)
  have hwH := hw.mono ex
  have rd := ImAll.reads I _ _ _ hwH rv
  rw [datas_map] at rd
  have hdep : PyData.depthAll ((d :: ds).map NestedKey.data) ≤ 60 := by
    rw [← datas_map, datas_depth]
    exact depthAll_le h8
  refine PySem.W.min_list_data (I.ok.hd hc) hl.isList (by simpa using rd) hal (by have : PyData.depthAll (d.data :: ds.map NestedKey.data) ≤ 60 := hdep; omega) fun i v h' tk bs hi rdv kp => ?_
  have hi' : its[i]? = some v := by simpa using hi
  obtain ⟨y, hy, ry⟩ : ∃ y, ws[i]? = some y ∧ RelV y v := by
    cases e : ws[i]? with
    | none => rw [Vals.none_of rv e] at hi'; cases hi'
    | some y =>
      obtain ⟨u, e1, e2⟩ := Vals.get rv e
      rw [hi'] at e1
      cases e1
      exact ⟨y, rfl, e2⟩
  obtain ⟨e, he, hie⟩ := ImAll.back hw hy
  have r1 := PyProof.Rows.Reads.keeps kp (Im.reads I e y v (hie.mono ex) ry)
  have e1 := reads_one e r1 rdv
  exact ⟨y, H, I.kept kp, ry, q e y (List.mem_of_getElem? he) e1.symm hie⟩
end
end Lk
end

section
set_option Elab.async false
set_option linter.all false
set_option maxRecDepth 100000
set_option maxHeartbeats 1000000
/-! Two dicts with nested keys that hold the same. -/
namespace Lk
open PySem PySem.Spec L2
open PyProof.Rows hiding St
open Evl (Ex)
section
variable {prog : Program} {w : World} {A : Around} {E : Value → Shared → Prop} {s : Shared}
theorem range_step {i n x : Nat} {rest : List Nat} (h : x :: rest = List.range' i (n - i)) : i < n ∧ x = i ∧ rest = List.range' (i + 1) (n - (i + 1)) := by
  have hi : i < n := by
    rcases Nat.lt_or_ge i n with z | z
    · exact z
    · rw [Nat.sub_eq_zero_of_le z] at h; cases h
  rw [show n - i = (n - (i + 1)) + 1 by omega, List.range'_succ] at h
  injection h with a b
  exact ⟨hi, a, b⟩
/-- every entry of the one stands in the other, with an equal value -/
theorem pairs_alike {nm : String} {a b : Addr} {xs ys : List (D × Addr × Value)} {Q : Bool → Shared → Prop} (ha : (a == sysModules) = false) (hb : (b == sysModules) = false) (da : s.heap.DictOfH (nestedKind prog w) a xs) (db : s.heap.DictOfH (nestedKind prog w) b ys) (hu : A.units + 64 < cLine) (hl : xs.length = ys.length)
    (hit : ∀ (i : Nat) (k : D) (p : Addr) (v : Value), xs[i]? = some (k, p, v) → ∃ (j : Nat) (q : Addr) (u : Value), ys[j]? = some (k, q, u) ∧ SeqAt.EqAt A s v u true) (h : Q true s) : wpAny (model prog w) A (Builtin.Dict.samePairs nm a b) Q E s := by
  obtain ⟨oa, es, ep, a1, _, a3, a4, a5, a6⟩ := da
  obtain ⟨ob, fs, fp, b1, _, b3, b4, b5, b6⟩ := db
  have la : es.size = xs.length := size_of_entries a4
  have lb : fs.size = ys.length := size_of_entries b4
  have sz : es.size = fs.size := by omega
  unfold Builtin.Dict.samePairs Builtin.Dict.showsAll
  rw [if_neg (by rw [ha]; exact Bool.false_ne_true), if_neg (by rw [hb]; exact Bool.false_ne_true)]
  refine wpAny_bind (wpAny_pure (wpAny_bind (wpAny_pure (wpAny_bind (wpAny_dictEntries a1 a3 ?_)))))
  dsimp only
  refine wpAny_bind (wpAny_dictEntries b1 b3 ?_)
  rw [if_neg (by rw [sz]; simp)]
  refine wpAny_bind (wpAny_dictEpoch a1 a3 (wpAny_bind ?_))
  rw [Std.Legacy.Range.forIn_eq_forIn_range']
  simp only [Std.Legacy.Range.size, Nat.sub_zero, Nat.add_sub_cancel, Nat.div_one]
  refine wpAny_forIn_list _ (fun rest q s' => s' = s ∧ q = (none, ()) ∧ ∃ i, rest = List.range' i (es.size - i)) _ ?_ ?_ _ _ ⟨rfl, rfl, 0, rfl⟩
  · rintro x rest q s' ⟨rfl, rfl, i, hr⟩
    obtain ⟨hi, rfl, hrest⟩ := range_step hr
    refine wpAny_bind (wpAny_dictEntries a1 a3 ?_)
    rw [Array.getElem?_eq_getElem hi]
    obtain ⟨⟨k, p, v⟩, hx⟩ : ∃ y, xs[x]? = some y := ⟨xs[x]'(by omega), List.getElem?_eq_getElem _⟩
    have en := entry_at a4 x
    rw [Array.getElem?_eq_getElem hi, hx] at en
    have en : es[x] = entryOfKey (nestedKind prog w) (k, p, v) := Option.some.inj en
    obtain ⟨j, q, u, hy, he⟩ := hit x k p v hx
    have hj : j < fs.size := by rw [lb]; exact (List.getElem?_eq_some_iff.mp hy).1
    show wpAny _ _ (holding [es[x].key, es[x].val] _ >>= _) _ _ _
    rw [en]
    have uniq : ∀ (m : Nat) (z : Addr × Value), ys[m]? = some (k, z) → m = j := fun m z hm => by
      have e1 : (ys.map (·.1))[m]? = some k := by rw [List.getElem?_map, hm]; rfl
      have e2 : (ys.map (·.1))[j]? = some k := by rw [List.getElem?_map, hy]; rfl
      exact (List.getElem?_inj (List.getElem?_eq_some_iff.mp e1).1 b6).mp (e1.trans e2.symm)
    refine wpAny_bind (wpAny_holding (wpAny_bind (wpAny_dictFind_heap (knd := nestedKind prog w) (k := k) (by show A.units + 8 < cLine; omega) (a5 _ (List.mem_of_getElem? hx)) b1 b3 b4 b5 b6 (fun none => absurd hy (none j (q, u))) fun m z hm => ?_)))
    have := uniq m z hm
    subst this
    refine wpAny_bind (wpAny_dictEntries b1 b3 ?_)
    rw [Array.getElem?_eq_getElem hj]
    have en2 := entry_at b4 m
    rw [Array.getElem?_eq_getElem hj, hy] at en2
    have en2 : fs[m] = entryOfKey (nestedKind prog w) (k, q, u) := Option.some.inj en2
    refine wpAny_holding ?_
    have ev : fs[m].val = u := by rw [en2]; rfl
    rw [← ev] at he
    refine he prog w _ _ ?_
    show wpAny _ _ (if (!true) = true then _ else _) _ _ _
    rw [if_neg (by decide)]
    refine wpAny_bind (wpAny_dictEpoch a1 a3 ?_)
    rw [if_neg (by simp)]
    exact wpAny_pure ⟨rfl, rfl, x + 1, hrest⟩
  · rintro q s' ⟨rfl, rfl, i, hr⟩
    exact wpAny_pure h
theorem ne_alike {a b : Addr} {xs ys : List (D × Addr × Value)} {Q : Value → Shared → Prop} (ha : (a == sysModules) = false) (hb : (b == sysModules) = false) (da : s.heap.DictOfH (nestedKind prog w) a xs) (db : s.heap.DictOfH (nestedKind prog w) b ys) (hu : A.units + 65 < cLine) (hl : xs.length = ys.length)
    (hit : ∀ (i : Nat) (k : D) (p : Addr) (v : Value), xs[i]? = some (k, p, v) → ∃ (j : Nat) (q : Addr) (u : Value), ys[j]? = some (k, q, u) ∧ SeqAt.EqAt A.in1 s v u true) (h : Q (.bool false) s) : wpAny (model prog w) A (compareOp .NotEq (.ref a) (.ref b)) Q E s := by
  refine wpAny_richCompare_same_room (op := .NotEq) da.typeIs db.typeIs PySem.F.slot_dict_ne (wpAny_call_entry PySem.F.slot_dict_ne da.typeIs PySem.F.entry_dict_ne ?_ (PySem.F.args_dict_ne_2 _ _)) (by omega)
  show wpAny _ _ (Builtin.Dict.dictSlotArgs "__ne__" ⟨[.ref a, .ref b], []⟩ >>= _) _ _ s
  unfold Builtin.Dict.dictSlotArgs
  refine wpAny_bind (wpAny_bind (wpAny_notOrdered_dict da.typeIs ?_))
  show wpAny _ _ (pure (Value.ref a, Value.ref b)) _ _ s
  refine wpAny_pure (wpAny_bind (wpAny_isInstance (T := "dict") db.typeIs PySem.F.sub_dict_dict ?_))
  simp only [Bool.not_true, Bool.false_eq_true, if_false]
  refine wpAny_bind (wpAny_pure (wpAny_bind (wpAny_pure (wpAny_bind (pairs_alike (A := A.in1) ha hb da db (by show A.units + 1 + 64 < cLine; omega) hl hit ?_)))))
  exact wpAny_pure ⟨_, rfl, fun x => (nomatch x), h⟩
end
section
variable {X : Cx}
/-- d != e, both hold the same data -/
def rNeX (P : Program) (w : World) : R2 := fun x y H Q => ∃ ks ls, DX P w ks x H ∧ DX P w ls y H ∧ ks.length = ls.length ∧ (∀ k v, (k, v) ∈ ks → ∃ v' d, (k, v') ∈ ls ∧ Im d v H ∧ Im d v' H ∧ fine d = true) ∧ Q (.bl false) H
theorem KX.find {K : Hp} {kvs : List (D × V)} {xs : List (D × Addr × Value)} (r : KX K kvs xs) {i : Nat} {k : D} {p : Addr} {v : Value} (h : xs[i]? = some (k, p, v)) : ∃ y, kvs[i]? = some (k, y) ∧ RelV y v := by
  induction r generalizing i with
  | nil => cases h
  | @cons a b l m hq t ih =>
    cases i with
    | zero =>
      cases h
      obtain ⟨k', y⟩ := a
      have : k' = k := hq.1
      subst this
      exact ⟨y, rfl, hq.2.2.2⟩
    | succ j => exact ih h
theorem KX.find' {K : Hp} {kvs : List (D × V)} {xs : List (D × Addr × Value)} (r : KX K kvs xs) {i : Nat} {k : D} {y : V} (h : kvs[i]? = some (k, y)) : ∃ p v, xs[i]? = some (k, p, v) ∧ RelV y v := by
  induction r generalizing i with
  | nil => cases h
  | @cons a b l m hq t ih =>
    cases i with
    | zero =>
      cases h
      obtain ⟨k', p, v⟩ := b
      have : k = k' := hq.1
      subst this
      exact ⟨p, v, rfl, hq.2.2.2⟩
    | succ j => exact ih h
theorem op_neX (hu : X.A.units + 128 < cLine) : OpR X (compareOp .NotEq) (rNeX X.prog X.w) := by
  intro pins s σ H x y v u Q I rx ry h
  obtain ⟨ks, ls, dx, dy, hl, hall, q⟩ := h
  obtain ⟨a, es, ep, xs, rfl, ha, ha2, _, _, kx, da, _, _⟩ := dx.at_ I
  obtain ⟨b, fs, fp, ys, rfl, hb, hb2, _, _, ky, db, _, _⟩ := dy.at_ I
  cases rx
  cases ry
  refine ne_alike ha2 hb2 da db (by omega) (by rw [← Paired.length kx, ← Paired.length ky]; exact hl) (fun i k p v hx => ?_) ⟨.bl false, H, I, rfl, q⟩
  obtain ⟨y, hy, ry⟩ := kx.find hx
  obtain ⟨y', d, hm, i1, i2, hf⟩ := hall k y (List.mem_of_getElem? hy)
  obtain ⟨j, hj⟩ := List.getElem?_of_mem hm
  obtain ⟨q, u, hq, ru⟩ := ky.find' hj
  refine ⟨j, q, u, hq, ?_⟩
  have := PySem.W.keq_at (A := X.A) (Im.reads I d y v i1 ry) (Im.reads I d y' u i2 ru) hf hf (by show X.A.units + 1 + 64 < cLine; omega)
  rw [data_eq d d, decide_eq_true rfl] at this
  exact this
end
end Lk
end

section
set_option Elab.async false
set_option linter.all false
set_option maxRecDepth 100000
set_option maxHeartbeats 1000000
/-! list(zip(t, u)) of two tuples. -/
namespace Lk
open PySem PySem.Spec L2
open PyProof.Rows hiding St
open Evl (Ex)
theorem zip_no_len : typeLookup (.type "zip") "__len__" = pure none := am_miss_of_fast (by decide +kernel)
theorem zip_no_hint : typeLookup (.type "zip") "__length_hint__" = pure none := am_miss_of_fast (by decide +kernel)
section
variable {prog : Program} {w : World} {A : Around} {E : Value → Shared → Prop} {s : Shared} {z TI TO i1 i2 l1 l2 : Addr} {xs ys : Array Value}
theorem held_item {T : Addr} {f : Bool} {oT : Obj} {k : Nat} {x y : Value} {Q : Value → Shared → Prop} (D : ZipApart z TI TO i1 i2 l1 l2) (hz : IsZipHeld s.heap z TI TO T f) (hT : s.heap.get? T = some oT) (hTI : IsPair s.heap TI (.ref i1) (.ref i2))
    (h1 : s.heap.IsTupleIter i1 l1 k) (h2 : s.heap.IsTupleIter i2 l2 k) (g1 : s.heap.IsTuple l1 xs) (g2 : s.heap.IsTuple l2 ys) (hx : xs[k]? = some x) (hy : ys[k]? = some y)
    (hQ : ∀ h', IsZipHeld h' z TI TO s.heap.objs.size false ∨ IsZipHeld h' z TI TO T true → h'.IsTupleIter i1 l1 (k + 1) → h'.IsTupleIter i2 l2 (k + 1) → IsPair h' s.heap.objs.size x y → (∀ c o, c ≠ z → c ≠ i1 → c ≠ i2 → s.heap.get? c = some o → h'.get? c = some o) → Q (.ref s.heap.objs.size) { s with heap := h' }) :
    wpAny (model prog w) A (Builtin.«zip.__next__» ⟨[.ref z], []⟩) (fun fin s' => ∃ v, fin = .done (.ret v) ∧ Q v s') E s := by
  show wpAny _ _ (field (.ref z) 2 >>= _) _ _ _
  refine wpAny_bind (wpAny_field hz rfl (x := .bool false) rfl ?_)
  show wpAny _ _ (field (.ref z) 3 >>= _) _ _ _
  refine wpAny_bind (wpAny_field hz rfl (x := .ref TI) rfl (wpAny_bind (wpAny_seqItems hTI rfl ?_)))
  show wpAny _ _ (Builtin.SmallTypes.ownedTupleIsFree (.ref z) >>= _) _ _ _
  refine wpAny_bind (wpAny_tupleHeld_zip hz hT fun ha za sa => ?_)
  simp only [Bool.false_eq_true, if_false]
  refine wpAny_bind ?_
  rw [← Array.forIn_toList]
  simp only [List.forIn_cons, List.forIn_nil]
  refine wpAny_bind (wpAny_bind (wpAny_holding ?_))
  show wpAny _ _ (Builtin.SmallTypes.nextOf (.ref i1) >>= _) _ _ _
  refine wpAny_bind (RZ.nextOf_tuple_item (s := { s with heap := ha }) (h1.extBut sa.extBut D.i1z) (g1.extBut sa.extBut D.l1z) hx fun hb b1 sb => wpAny_pure (wpAny_pure ?_))
  refine wpAny_bind (wpAny_bind (wpAny_holding ?_))
  show wpAny _ _ (Builtin.SmallTypes.nextOf (.ref i2) >>= _) _ _ _
  refine wpAny_bind (RZ.nextOf_tuple_item (s := { s with heap := hb }) ((h2.extBut sa.extBut D.i2z).extBut sb.extBut D.i12.symm) ((g2.extBut sa.extBut D.l2z).extBut sb.extBut D.l2i1) hy fun hc c1 sc => wpAny_pure (wpAny_pure (wpAny_pure ?_)))
  show wpAny _ _ (newTuple [x, y] >>= _) _ _ _
  refine wpAny_bind (wpAny_newTuple ?_)
  have sz : hc.objs.size = s.heap.objs.size := by rw [sc.1, sb.1, sa.1]
  have kp : ∀ c o, c ≠ z → c ≠ i1 → c ≠ i2 → s.heap.get? c = some o → hc.get? c = some o := fun c o n1 n2 n3 e => sc.extBut _ _ n3 (sb.extBut _ _ n2 (sa.extBut _ _ n1 e))
  refine wpAny_pure ⟨_, rfl, ?_⟩
  show Q (.ref hc.objs.size) _
  have hp : IsPair (hc.push { cls := .type "tuple", data := .seq #[x, y] }) hc.objs.size x y := Heap.get?_push_size _ rfl
  rw [sz] at hp ⊢
  exact hQ _ (.inr (Heap.get?_push_of_some _ (sc.extBut _ _ D.i2z.symm (sb.extBut _ _ D.i1z.symm za)))) ((b1.extBut sc.extBut D.i12).at fun o e => Heap.get?_push_of_some _ e) (c1.at fun o e => Heap.get?_push_of_some _ e) hp fun c o n1 n2 n3 e => Heap.get?_push_of_some _ (kp c o n1 n2 n3 e)
theorem held_end {T : Addr} {f : Bool} {oT : Obj} {k : Nat} {Q : Fin → Shared → Prop} (hh : A.handled = none) (D : ZipApart z TI TO i1 i2 l1 l2) (hz : IsZipHeld s.heap z TI TO T f) (hT : s.heap.get? T = some oT) (hTI : IsPair s.heap TI (.ref i1) (.ref i2))
    (h1 : s.heap.IsTupleIter i1 l1 k) (g1 : s.heap.IsTuple l1 xs) (hx : xs[k]? = none) (hE : ∀ h' e, (∀ c o, c ≠ z → c ≠ i1 → s.heap.get? c = some o → h'.get? c = some o) → (∃ o, h'.get? e = some o ∧ o.cls = .type "StopIteration") → E (.ref e) { s with heap := h' }) :
    wpAny (model prog w) A (Builtin.«zip.__next__» ⟨[.ref z], []⟩) Q E s := by
  show wpAny _ _ (field (.ref z) 2 >>= _) _ _ _
  refine wpAny_bind (wpAny_field hz rfl (x := .bool false) rfl ?_)
  show wpAny _ _ (field (.ref z) 3 >>= _) _ _ _
  refine wpAny_bind (wpAny_field hz rfl (x := .ref TI) rfl (wpAny_bind (wpAny_seqItems hTI rfl ?_)))
  show wpAny _ _ (Builtin.SmallTypes.ownedTupleIsFree (.ref z) >>= _) _ _ _
  refine wpAny_bind (wpAny_tupleHeld_zip hz hT fun ha za sa => ?_)
  simp only [Bool.false_eq_true, if_false]
  refine wpAny_bind ?_
  rw [← Array.forIn_toList]
  simp only [List.forIn_cons, List.forIn_nil]
  refine wpAny_bind (wpAny_bind (wpAny_holding ?_))
  show wpAny _ _ (Builtin.SmallTypes.nextOf (.ref i1) >>= _) _ _ _
  exact wpAny_bind (RZ.nextOf_tuple_end (s := { s with heap := ha }) hh (h1.extBut sa.extBut D.i1z) (g1.extBut sa.extBut D.l1z) hx fun h' e sb he => hE h' e (fun c o n1 n2 x => sb _ _ n2 (sa.extBut _ _ n1 x)) he)
theorem pn_item {T : Addr} {f : Bool} {oT : Obj} {k : Nat} {x y : Value} {Q : Option Value → Shared → Prop} (D : ZipApart z TI TO i1 i2 l1 l2) (hz : IsZipHeld s.heap z TI TO T f) (hT : s.heap.get? T = some oT) (hTI : IsPair s.heap TI (.ref i1) (.ref i2))
    (h1 : s.heap.IsTupleIter i1 l1 k) (h2 : s.heap.IsTupleIter i2 l2 k) (g1 : s.heap.IsTuple l1 xs) (g2 : s.heap.IsTuple l2 ys) (hx : xs[k]? = some x) (hy : ys[k]? = some y)
    (hQ : ∀ h', IsZipHeld h' z TI TO s.heap.objs.size false ∨ IsZipHeld h' z TI TO T true → h'.IsTupleIter i1 l1 (k + 1) → h'.IsTupleIter i2 l2 (k + 1) → IsPair h' s.heap.objs.size x y → (∀ c o, c ≠ z → c ≠ i1 → c ≠ i2 → s.heap.get? c = some o → h'.get? c = some o) → Q (some (.ref s.heap.objs.size)) { s with heap := h' }) :
    wpAny (model prog w) A (pyNext (.ref z)) Q E s := by
  have ty : s.TypeIs (.ref z) "zip" := ⟨_, hz, rfl⟩
  unfold pyNext
  exact wpAny_bind (wpAny_attempt (wpAny_callSpecial?_slot (name := Str.ofString "__next__") ty F.slot_zip_next (wpAny_call_entry F.slot_zip_next ty F.entry_zip_next (held_item D hz hT hTI h1 h2 g1 g2 hx hy fun h' a b c d e => wpAny_pure (hQ h' a b c d e)) (F.args_zip_next_1 _))))
theorem pn_end {T : Addr} {f : Bool} {oT : Obj} {k : Nat} {Q : Option Value → Shared → Prop} (hh : A.handled = none) (D : ZipApart z TI TO i1 i2 l1 l2) (hz : IsZipHeld s.heap z TI TO T f) (hT : s.heap.get? T = some oT) (hTI : IsPair s.heap TI (.ref i1) (.ref i2))
    (h1 : s.heap.IsTupleIter i1 l1 k) (g1 : s.heap.IsTuple l1 xs) (hx : xs[k]? = none) (hQ : ∀ h', (∀ c o, c ≠ z → c ≠ i1 → s.heap.get? c = some o → h'.get? c = some o) → Q none { s with heap := h' }) :
    wpAny (model prog w) A (pyNext (.ref z)) Q E s := by
  have ty : s.TypeIs (.ref z) "zip" := ⟨_, hz, rfl⟩
  unfold pyNext
  refine wpAny_bind (wpAny_attempt (wpAny_callSpecial?_slot (name := Str.ofString "__next__") ty F.slot_zip_next (wpAny_call_entry F.slot_zip_next ty F.entry_zip_next (held_end hh D hz hT hTI h1 g1 hx fun h' e kp he => ?_) (F.args_zip_next_1 _))))
  obtain ⟨o, ho, hc⟩ := he
  exact wpAny_bind (wpAny_isInstance (T := "StopIteration") (b := true) ⟨o, ho, hc⟩ isSubtype_stop (wpAny_pure (hQ _ kp)))
/-- the zip between two items -/
structure ZAt (h : Heap) (z TI TO i1 i2 l1 l2 m : Addr) (xs ys : Array Value) (k : Nat) : Prop where
  ti : IsPair h TI (.ref i1) (.ref i2)
  it1 : h.IsTupleIter i1 l1 k
  it2 : h.IsTupleIter i2 l2 k
  t1 : h.IsTuple l1 xs
  t2 : h.IsTuple l2 ys
  z : (IsZip h z TI TO .none ∧ ∃ a b, IsPair h TO a b) ∨ ∃ (T : Addr) (f : Bool) (oT : Obj), IsZipHeld h z TI TO T f ∧ h.get? T = some oT ∧ m ≤ T
theorem z_item {k m : Nat} {x y : Value} {Q : Option Value → Shared → Prop} (D : ZipApart z TI TO i1 i2 l1 l2) (Z : ZAt s.heap z TI TO i1 i2 l1 l2 m xs ys k) (hm : m ≤ s.heap.objs.size) (lt : z < m ∧ TI < m ∧ TO < m ∧ i1 < m ∧ i2 < m) (hx : xs[k]? = some x) (hy : ys[k]? = some y)
    (hQ : ∀ h', ZAt h' z TI TO i1 i2 l1 l2 m xs ys (k + 1) → IsPair h' s.heap.objs.size x y → (∀ c o, c ≠ z → c ≠ TO → c ≠ i1 → c ≠ i2 → s.heap.get? c = some o → h'.get? c = some o) → Q (some (.ref s.heap.objs.size)) { s with heap := h' }) :
    wpAny (model prog w) A (pyNext (.ref z)) Q E s := by
  have kt : ∀ {h' : Heap} {l : Addr} {v : Array Value}, l ≠ z → l ≠ TO → l ≠ i1 → l ≠ i2 → (∀ c o, c ≠ z → c ≠ TO → c ≠ i1 → c ≠ i2 → s.heap.get? c = some o → h'.get? c = some o) → s.heap.IsTuple l v → h'.IsTuple l v := fun n1 n2 n3 n4 kp t => t.at fun o e => kp _ o n1 n2 n3 n4 e
  rcases Z.z with ⟨hz, a, b, hTO⟩ | ⟨T, f, oT, hz, hT, hTm⟩
  · refine RZ.pyNext_zipT_item D hz Z.ti hTO Z.it1 Z.it2 Z.t1 Z.t2 hx hy fun h' a1 a2 a3 a4 a5 a6 kp => hQ h' ⟨kp TI _ D.TIz D.TITO D.TIi1 D.TIi2 Z.ti, a3, a4, kt D.l1z D.l1TO D.l1i1 D.l1i2 kp Z.t1, kt D.l2z D.l2TO D.l2i1 D.l2i2 kp Z.t2, .inr ⟨s.heap.objs.size, false, _, a1, a5, hm⟩⟩ a5 kp
  · refine pn_item D hz hT Z.ti Z.it1 Z.it2 Z.t1 Z.t2 hx hy fun h' a1 a3 a4 a5 kp => hQ h' ⟨kp TI _ D.TIz D.TIi1 D.TIi2 Z.ti, a3, a4, kt D.l1z D.l1TO D.l1i1 D.l1i2 (fun c o n1 _ n3 n4 e => kp c o n1 n3 n4 e) Z.t1, kt D.l2z D.l2TO D.l2i1 D.l2i2 (fun c o n1 _ n3 n4 e => kp c o n1 n3 n4 e) Z.t2, .inr ?_⟩ a5 fun c o n1 _ n3 n4 e => kp c o n1 n3 n4 e
    rcases a1 with a1 | a1
    · exact ⟨s.heap.objs.size, false, _, a1, a5, hm⟩
    · have e1 : T ≠ z := fun e => by subst e; exact Nat.lt_irrefl _ (Nat.lt_of_lt_of_le lt.1 hTm)
      have e2 : T ≠ i1 := fun e => by subst e; exact Nat.lt_irrefl _ (Nat.lt_of_lt_of_le lt.2.2.2.1 hTm)
      have e3 : T ≠ i2 := fun e => by subst e; exact Nat.lt_irrefl _ (Nat.lt_of_lt_of_le lt.2.2.2.2 hTm)
      exact ⟨T, true, oT, a1, kp T oT e1 e2 e3 hT, hTm⟩
theorem z_end {k m : Nat} {Q : Option Value → Shared → Prop} (hh : A.handled = none) (D : ZipApart z TI TO i1 i2 l1 l2) (Z : ZAt s.heap z TI TO i1 i2 l1 l2 m xs ys k) (hx : xs[k]? = none)
    (hQ : ∀ h', (∀ c o, c ≠ z → c ≠ TO → c ≠ i1 → c ≠ i2 → s.heap.get? c = some o → h'.get? c = some o) → Q none { s with heap := h' }) : wpAny (model prog w) A (pyNext (.ref z)) Q E s := by
  rcases Z.z with ⟨hz, a, b, hTO⟩ | ⟨T, f, oT, hz, hT, hTm⟩
  · exact RZ.pyNext_zipT_end hh D hz Z.ti hTO Z.it1 Z.it2 Z.t1 Z.t2 (.inl hx) hQ
  · exact pn_end hh D hz hT Z.ti Z.it1 Z.t1 hx fun h' kp => hQ h' fun c o n1 _ n3 _ e => kp c o n1 n3 e
/-- the list fills -/
theorem z_loop {S m : Addr} {R : Result → Shared → Prop} (hh : A.handled = none) (D : ZipApart z TI TO i1 i2 l1 l2) (lt : z < m ∧ TI < m ∧ TO < m ∧ i1 < m ∧ i2 < m) (hS : S < m) (ns : S ≠ z ∧ S ≠ TI ∧ S ≠ TO ∧ S ≠ i1 ∧ S ≠ i2 ∧ S ≠ l1 ∧ S ≠ l2) (hsz : xs.size = ys.size) (hn : xs.size ≤ sizeLine) (res : Value) {g : Heap}
    (hR : ∀ (h' : Heap) (tk : Nat) (acc : Array Value) (c : Nat) (as : List Addr), (∀ b o, b ≠ S → b ≠ z → b ≠ TO → b ≠ i1 → b ≠ i2 → g.get? b = some o → h'.get? b = some o) → h'.get? S = some { cls := .type "list", dict := none, data := .seq acc c, slots := #[] } → as.length = xs.size →
      (∀ (j : Nat) (a : Addr), as[j]? = some a → m ≤ a ∧ ∃ x y, xs[j]? = some x ∧ ys[j]? = some y ∧ IsPair h' a x y) → as.Nodup → acc.toList = as.map Value.ref → R (.ok (.ret res)) { s with heap := h', toks := tk }) :
    ∀ (r k : Nat) (h : Heap) (tk c : Nat) (acc : Array Value) (as : List Addr), xs.size - k = r → k ≤ xs.size → ZAt h z TI TO i1 i2 l1 l2 m xs ys k → m ≤ h.objs.size → (∀ b o, b ≠ S → b ≠ z → b ≠ TO → b ≠ i1 → b ≠ i2 → g.get? b = some o → h.get? b = some o) →
      h.get? S = some { cls := .type "list", dict := none, data := .seq acc c, slots := #[] } → acc.toList = as.map Value.ref → as.length = k → (∀ (j : Nat) (a : Addr), as[j]? = some a → m ≤ a ∧ a < h.objs.size ∧ ∃ x y, xs[j]? = some x ∧ ys[j]? = some y ∧ IsPair h a x y) → as.Nodup →
      codeAny (model prog w) A (.builtin "list.extend.loop" ⟨[.ref S, .ref z, res], []⟩) R { s with heap := h, toks := tk } := by
  obtain ⟨s1, s2, s3, s4, s5, s6, s7⟩ := ns
  have far : ∀ {a : Addr}, m ≤ a → a ≠ S ∧ a ≠ z ∧ a ≠ TO ∧ a ≠ i1 ∧ a ≠ i2 := fun {a} ha => by
    exact ⟨Nat.ne_of_gt (Nat.lt_of_lt_of_le hS ha), Nat.ne_of_gt (Nat.lt_of_lt_of_le lt.1 ha), Nat.ne_of_gt (Nat.lt_of_lt_of_le lt.2.2.1 ha), Nat.ne_of_gt (Nat.lt_of_lt_of_le lt.2.2.2.1 ha), Nat.ne_of_gt (Nat.lt_of_lt_of_le lt.2.2.2.2 ha)⟩
  intro r
  induction r with
  | zero =>
    intro k h tk c acc as hk hle Z hm kp hSl hacc hal hall nd
    have hk' : k = xs.size := by omega
    refine codeAny_builtin PySem.F.entry_extend_loop ?_
    rw [Around.under_plainId PySem.F.plain_extend_loop _]
    show wpAny _ A.in1 (pyNext (.ref z) >>= _) _ _ _
    refine wpAny_bind (z_end (s := { s with heap := h, toks := tk }) (A := A.in1) hh D Z (by rw [hk']; simp) fun h' k2 => ?_)
    refine wpAny_pure (hR h' tk acc c as (fun b o n0 n1 n2 n3 n4 e => k2 b o n1 n2 n3 n4 (kp b o n0 n1 n2 n3 n4 e)) (k2 S _ s1 s3 s4 s5 hSl) (by omega) (fun j a hj => ?_) nd hacc)
    obtain ⟨b1, b2, x, y, e1, e2, e3⟩ := hall j a hj
    obtain ⟨f1, f2, f3, f4, f5⟩ := far b1
    exact ⟨b1, x, y, e1, e2, k2 a _ f2 f3 f4 f5 e3⟩
  | succ r ih =>
    intro k h tk c acc as hk hle Z hm kp hSl hacc hal hall nd
    have hlt : k < xs.size := by omega
    have has : acc.size = k := by rw [← Array.length_toList, hacc, List.length_map, hal]
    refine codeAny_builtin PySem.F.entry_extend_loop ?_
    rw [Around.under_plainId PySem.F.plain_extend_loop _]
    show wpAny _ A.in1 (pyNext (.ref z) >>= _) _ _ _
    refine wpAny_bind (z_item (s := { s with heap := h, toks := tk }) (A := A.in1) (x := xs[k]) (y := ys[k]'(by omega)) D Z hm lt (Array.getElem?_eq_getElem hlt) (Array.getElem?_eq_getElem (by omega)) fun h' Z' hp k2 => ?_)
    dsimp only at Z' hp k2 ⊢
    have hS' := k2 S _ s1 s3 s4 s5 hSl
    have up : ∀ b o, b ≠ S → h'.get? b = some o → (h'.update S (Obj.mapSeq (·.push (Value.ref h.objs.size)))).get? b = some o := fun b o hb e => (Heap.get?_update_other _ _ (Ne.symm hb)).trans e
    have hne : h.objs.size ≠ S := (far hm).1
    show wpAny _ A.in1 (updateSeq S (·.push (Value.ref h.objs.size)) >>= _) _ _ _
    refine wpAny_bind (wpAny_updateSeq hS' rfl (wpAny_pure ⟨plainId_quiet PySem.F.plain_extend_loop _, ?_⟩) (by rw [has]; omega) (by rw [Array.size_push, has]; omega))
    have sz2 : h.objs.size < (h'.update S (Obj.mapSeq (·.push (Value.ref h.objs.size)))).objs.size := Heap.lt_size (up _ _ hne hp)
    refine ih (k + 1) _ tk _ (acc.push (Value.ref h.objs.size)) (as ++ [h.objs.size]) (by omega) hlt ?_ (Nat.le_trans hm (Nat.le_of_lt sz2)) (fun b o n0 n1 n2 n3 n4 e => up b o n0 (k2 b o n1 n2 n3 n4 (kp b o n0 n1 n2 n3 n4 e))) (Heap.get?_update_self _ hS' rfl) (by rw [Array.toList_push, hacc, List.map_append]; rfl) (by rw [List.length_append, hal]; rfl) (fun j a hj => ?_) ?_
    · obtain ⟨q1, q2, q3, q4, q5, q6⟩ := Z'
      refine ⟨up _ _ s2.symm q1, q2.at fun o e => up _ _ s4.symm e, q3.at fun o e => up _ _ s5.symm e, q4.at fun o e => up _ _ s6.symm e, q5.at fun o e => up _ _ s7.symm e, ?_⟩
      rcases q6 with ⟨u1, a, b, u2⟩ | ⟨T, f, oT, u1, u2, u3⟩
      · exact .inl ⟨up _ _ s1.symm u1, a, b, up _ _ s3.symm u2⟩
      · exact .inr ⟨T, f, oT, up _ _ s1.symm u1, up _ _ (far u3).1 u2, u3⟩
    · rcases Nat.lt_or_ge j as.length with q | q
      · rw [List.getElem?_append_left q] at hj
        obtain ⟨b1, b2, x, y, e1, e2, e3⟩ := hall j a hj
        obtain ⟨f1, f2, f3, f4, f5⟩ := far b1
        have := up _ _ f1 (k2 a _ f2 f3 f4 f5 e3)
        exact ⟨b1, Heap.lt_size this, x, y, e1, e2, this⟩
      · rw [List.getElem?_append_right q] at hj
        have hj0 : j - as.length = 0 := by
          rcases Nat.eq_zero_or_pos (j - as.length) with z | z
          · exact z
          · rw [List.getElem?_eq_none (by simp; omega)] at hj; cases hj
        have hj1 : j = k := by omega
        rw [hj0] at hj
        cases hj
        subst hj1
        exact ⟨hm, sz2, _, _, Array.getElem?_eq_getElem hlt, Array.getElem?_eq_getElem (by omega), up _ _ hne hp⟩
    · rw [List.nodup_append]
      refine ⟨nd, by simp, fun a ha b hb e => ?_⟩
      obtain ⟨j, hj⟩ := List.getElem?_of_mem ha
      have := (hall j a hj).2.1
      have hb' : b = h.objs.size := by simpa using hb
      exact absurd (e.trans hb') (Nat.ne_of_lt this)
/-- the zip is handed to list -/
theorem z_ext {S : Addr} {R : Result → Shared → Prop} (hh : A.handled = none) (D : ZipApart z TI TO i1 i2 l1 l2) (lt : z < s.heap.objs.size ∧ TI < s.heap.objs.size ∧ TO < s.heap.objs.size ∧ i1 < s.heap.objs.size ∧ i2 < s.heap.objs.size) (ns : S ≠ z ∧ S ≠ TI ∧ S ≠ TO ∧ S ≠ i1 ∧ S ≠ i2 ∧ S ≠ l1 ∧ S ≠ l2) (hsz : xs.size = ys.size) (hn : xs.size ≤ sizeLine) (res : Value)
    (hz : IsZip s.heap z TI TO .none) (Z : ZAt s.heap z TI TO i1 i2 l1 l2 s.heap.objs.size xs ys 0) (c₀ : Nat) (hS : s.heap.get? S = some { cls := .type "list", data := .seq #[] c₀ })
    (hR : ∀ (h' : Heap) (tk : Nat) (acc : Array Value) (c : Nat) (as : List Addr), (∀ b o, b ≠ S → b ≠ z → b ≠ TO → b ≠ i1 → b ≠ i2 → s.heap.get? b = some o → h'.get? b = some o) → h'.get? S = some { cls := .type "list", dict := none, data := .seq acc c, slots := #[] } → as.length = xs.size →
      (∀ (j : Nat) (a : Addr), as[j]? = some a → s.heap.objs.size ≤ a ∧ ∃ x y, xs[j]? = some x ∧ ys[j]? = some y ∧ IsPair h' a x y) → as.Nodup → acc.toList = as.map Value.ref → R (.ok (.ret res)) { s with heap := h', toks := tk }) :
    wpAny (model prog w) A.in1 (Builtin.List.listExtendWith (.ref S) (.ref z) res) (fun fin s' => match fin with | .done f => R (.ok f) s' | .again c' => c'.quiet = true ∧ codeAny (model prog w) A c' R s') (fun e s' => R (.error e) s') s := by
  have ty : s.TypeIs (.ref z) "zip" := ⟨_, hz, rfl⟩
  have hSm : S < s.heap.objs.size := Heap.lt_size hS
  unfold Builtin.List.listExtendWith
  refine wpAny_bind (wpAny_typeOf (T := "zip") ty ?_)
  have h1 : Builtin.List.listSameRef (.ref S) (.ref z) = false := by simp [Builtin.List.listSameRef, ns.1]
  have h2 : (Value.type "zip" == Value.type "list") = false := by decide
  have h3 : (Value.type "zip" == Value.type "tuple") = false := by decide
  simp only [h1, h2, h3, Bool.or_false, Bool.false_eq_true, if_false]
  refine wpAny_bind (wpAny_pyIter_zip hz ?_)
  refine wpAny_bind (wpAny_holding ?_)
  unfold Builtin.List.listLengthHint
  refine wpAny_bind (wpAny_specialOf ty zip_no_len ?_)
  show wpAny _ A.in1 (specialOf (Value.ref z) (Str.ofString "__length_hint__") >>= _) _ _ _
  refine wpAny_bind (wpAny_specialOf ty zip_no_hint (wpAny_pure ?_))
  show wpAny _ _ (if true = true then _ else _) _ _ _
  rw [if_pos rfl]
  refine wpAny_bind (wpAny_rule (wpAny_bind ?_))
  show wpAny _ _ (updateSeq S (·.push .none) >>= fun _ => updateSeq S (·.pop)) _ _ _
  refine wpAny_bind (wpAny_updateSeq hS rfl ?_)
  have hS2 := Heap.get?_update_self (Obj.mapSeq (·.push Value.none)) hS rfl
  refine wpAny_updateSeq (hz := by seq_fits) hS2 rfl ?_
  have hS3 := Heap.get?_update_self (Obj.mapSeq (·.pop)) hS2 rfl
  have up : ∀ b o, b ≠ S → s.heap.get? b = some o → ((s.heap.update S (Obj.mapSeq (·.push Value.none))).update S (Obj.mapSeq (·.pop))).get? b = some o := fun b o hb e => (Heap.get?_update_other _ _ (Ne.symm hb)).trans ((Heap.get?_update_other _ _ (Ne.symm hb)).trans e)
  obtain ⟨s1, s2, s3, s4, s5, s6, s7⟩ := ns
  refine wpAny_pure ⟨plainId_quiet PySem.F.plain_extend_loop _, ?_⟩
  refine z_loop (m := s.heap.objs.size) (g := s.heap) (S := S) hh D lt hSm ⟨s1, s2, s3, s4, s5, s6, s7⟩ hsz hn res hR xs.size 0 _ _ _ #[] [] (Nat.sub_zero _) (Nat.zero_le _) ?_ ?_ (fun b o n0 _ _ _ _ e => up b o n0 e) hS3 rfl rfl (fun j a hj => by cases hj) List.nodup_nil
  · obtain ⟨q1, q2, q3, q4, q5, q6⟩ := Z
    refine ⟨up _ _ s2.symm q1, q2.at fun o e => up _ _ s4.symm e, q3.at fun o e => up _ _ s5.symm e, q4.at fun o e => up _ _ s6.symm e, q5.at fun o e => up _ _ s7.symm e, ?_⟩
    rcases q6 with ⟨u1, a, b, u2⟩ | ⟨T, f, oT, u1, u2, u3⟩
    · exact .inl ⟨up _ _ s1.symm u1, a, b, up _ _ s3.symm u2⟩
    · exact .inr ⟨T, f, oT, up _ _ s1.symm u1, up _ _ (fun e => by subst e; exact Nat.lt_irrefl _ (Nat.lt_of_lt_of_le hSm u3)) u2, u3⟩
  · rw [Heap.size_update, Heap.size_update]; exact Nat.le_refl _
theorem z_init {S : Addr} {R : Result → Shared → Prop} (hh : A.handled = none) (D : ZipApart z TI TO i1 i2 l1 l2) (lt : z < s.heap.objs.size ∧ TI < s.heap.objs.size ∧ TO < s.heap.objs.size ∧ i1 < s.heap.objs.size ∧ i2 < s.heap.objs.size) (ns : S ≠ z ∧ S ≠ TI ∧ S ≠ TO ∧ S ≠ i1 ∧ S ≠ i2 ∧ S ≠ l1 ∧ S ≠ l2) (hsz : xs.size = ys.size) (hn : xs.size ≤ sizeLine)
    (hz : IsZip s.heap z TI TO .none) (Z : ZAt s.heap z TI TO i1 i2 l1 l2 s.heap.objs.size xs ys 0) (hS : s.heap.get? S = some { cls := .type "list", data := .seq #[] })
    (hR : ∀ (h' : Heap) (tk : Nat) (acc : Array Value) (c : Nat) (as : List Addr), (∀ b o, b ≠ S → b ≠ z → b ≠ TO → b ≠ i1 → b ≠ i2 → s.heap.get? b = some o → h'.get? b = some o) → h'.get? S = some { cls := .type "list", dict := none, data := .seq acc c, slots := #[] } → as.length = xs.size →
      (∀ (j : Nat) (a : Addr), as[j]? = some a → s.heap.objs.size ≤ a ∧ ∃ x y, xs[j]? = some x ∧ ys[j]? = some y ∧ IsPair h' a x y) → as.Nodup → acc.toList = as.map Value.ref → R (.ok (.ret .none)) { s with heap := h', toks := tk }) :
    wpAny (model prog w) A.in1 (Builtin.«list.__init__» ⟨[.ref S, .ref z], []⟩) (fun fin s' => match fin with | .done f => R (.ok f) s' | .again c' => c'.quiet = true ∧ codeAny (model prog w) A c' R s') (fun e s' => R (.error e) s') s := by
  show wpAny _ _ (do let old ← Builtin.List.listItems (.ref S); Builtin.List.listUpdate (.ref S) (fun _ => #[]); letGo old.toList.reverse; Builtin.List.listExtendWith (.ref S) (.ref z) .none) _ _ s
  refine wpAny_bind ?_
  unfold Builtin.List.listItems
  refine wpAny_bind (wpAny_seqItems hS rfl (wpAny_pure ?_))
  show wpAny _ _ (updateSeq S (fun _ => #[]) >>= fun _ => letGo (#[] : Array Value).toList.reverse >>= fun _ => Builtin.List.listExtendWith (.ref S) (.ref z) .none) _ _ s
  refine wpAny_bind (wpAny_updateSeq hS rfl ?_)
  have up : ∀ b o, b ≠ S → s.heap.get? b = some o → (s.heap.update S (Obj.mapSeq fun _ => #[])).get? b = some o := fun b o hb e => (Heap.get?_update_other _ _ (Ne.symm hb)).trans e
  have hS2 := Heap.get?_update_self (Obj.mapSeq fun _ => #[]) hS rfl
  have sz : (s.heap.update S (Obj.mapSeq fun _ => #[])).objs.size = s.heap.objs.size := Heap.size_update ..
  have hSm : S < s.heap.objs.size := Heap.lt_size hS
  obtain ⟨s1, s2, s3, s4, s5, s6, s7⟩ := ns
  refine wpAny_bind (wpAny_letGo ?_)
  refine z_ext (s := { s with heap := s.heap.update S (Obj.mapSeq fun _ => #[]) }) hh D (by rw [sz]; exact lt) ⟨s1, s2, s3, s4, s5, s6, s7⟩ hsz hn .none (up _ _ s1.symm hz) ?_ _ hS2 fun h' tk acc c as k a1 a2 a3 a4 a5 => hR h' tk acc c as (fun b o n0 n1 n2 n3 n4 e => k b o n0 n1 n2 n3 n4 (up b o n0 e)) a1 a2 (by rw [sz] at a3; exact a3) a4 a5
  rw [show (({ s with heap := s.heap.update S (Obj.mapSeq fun _ => #[]) } : Shared).heap.objs.size) = s.heap.objs.size from sz]
  obtain ⟨q1, q2, q3, q4, q5, q6⟩ := Z
  refine ⟨up _ _ s2.symm q1, q2.at fun o e => up _ _ s4.symm e, q3.at fun o e => up _ _ s5.symm e, q4.at fun o e => up _ _ s6.symm e, q5.at fun o e => up _ _ s7.symm e, ?_⟩
  rcases q6 with ⟨u1, a, b, u2⟩ | ⟨T, f, oT, u1, u2, u3⟩
  · exact .inl ⟨up _ _ s1.symm u1, a, b, up _ _ s3.symm u2⟩
  · exact .inr ⟨T, f, oT, up _ _ s1.symm u1, up _ _ (fun e => by subst e; exact Nat.lt_irrefl _ (Nat.lt_of_lt_of_le hSm u3)) u2, u3⟩
end
section
variable {X : Cx} {pins : List (Addr × Obj)} {σ : L2.St} {H H' : Hp} {s : Shared} {h' : Heap}
/-- many new objects -/
theorem laidN {t' : Nat} (I : Inv X pins σ H s) (k : ∀ b u, s.heap.get? b = some u → h'.get? b = some u) (hH : ∀ b, H' b ≠ H b → s.heap.get? b = none) (new : ∀ b o, H' b = some o → H b = none → ObjOk X.prog X.w H' h' b o) : Inv X pins σ H' { s with heap := h', toks := t' } := by
  have same : ∀ {b : Addr} {u : Obj}, s.heap.get? b = some u → H' b = H b := fun {b u} q => by
    by_cases e : H' b = H b
    · exact e
    · rw [hH b e] at q; cases q
  have some_same : ∀ {b : Addr} {o : HO}, H b = some o → H' b = some o := fun {b o} q => by
    obtain ⟨u, hu⟩ := stands (I.hok b o q)
    rw [same hu]; exact q
  refine I.un ⟨fun b u q _ _ _ => k b u q, fun b u q _ _ _ => ⟨u.slots, k b u q⟩, fun b u q n _ => by rw [same q]; exact n, fun b u q _ => ⟨u, k b u q⟩, fun b xs q => some_same q, fun b u xs q => some_same q, fun b ps q => ⟨#[], by rw [some_same q]; simp⟩⟩ fun b o e => ?_
  cases q : H b with
  | none => exact new b o e q
  | some o' =>
    have := some_same q
    rw [e] at this
    cases this
    exact (I.hok b o q).stay (fun c v _ z => k c v z) (fun c z => some_same z) fun c xs z => some_same z
def Hz (as : List Addr) (ps : List (V × V)) (H : Hp) : Hp := fun c => match (as.zip ps).lookup c with
  | some (x, y) => some (.tup [x, y])
  | none => H c
theorem zip_look {β : Type} : ∀ {as : List Addr} {ps : List β} {j : Nat} {a : Addr} {p : β}, as.Nodup → as[j]? = some a → ps[j]? = some p → (as.zip ps).lookup a = some p
  | [], _, _, _, _, _, h, _ => nomatch h
  | _ :: _, [], _, _, _, _, _, h => nomatch h
  | b :: as, q :: ps, j, a, p, nd, h1, h2 => by
    rw [List.zip_cons_cons, List.lookup_cons]
    cases j with
    | zero => cases h1; cases h2; simp
    | succ j =>
      have h1 : as[j]? = some a := h1
      have : a ≠ b := fun e => by
        subst e
        exact (List.nodup_cons.mp nd).1 (List.mem_of_getElem? h1)
      rw [show (a == b) = false from beq_eq_false_iff_ne.mpr this]
      exact zip_look (List.nodup_cons.mp nd).2 h1 h2
theorem zip_find {β : Type} : ∀ {as : List Addr} {ps : List β} {a : Addr} {p : β}, (as.zip ps).lookup a = some p → ∃ j : Nat, as[j]? = some a ∧ ps[j]? = some p
  | [], _, _, _, h => by rw [List.zip_nil_left] at h; cases h
  | _ :: _, [], _, _, h => by rw [List.zip_nil_right] at h; cases h
  | b :: as, q :: ps, a, p, h => by
    rw [List.zip_cons_cons, List.lookup_cons] at h
    cases e : a == b with
    | true => rw [e] at h; cases h; exact ⟨0, by rw [eq_of_beq e]; rfl, rfl⟩
    | false =>
      rw [e] at h
      obtain ⟨j, h1, h2⟩ := zip_find (as := as) (ps := ps) h
      exact ⟨j + 1, h1, h2⟩
def tLz (K : PySem.W.Frag) (ta : TA) : TE := fun σ H Q => ta σ H fun vs H1 => ∃ a b xs ys, vs = [.ref a, .ref b] ∧ SqT K H1 a xs ∧ SqT K H1 b ys ∧ xs.length = ys.length ∧ ∀ (p : Addr) (ts : List Addr) (H2 : Hp), H1 p = none → Ex H1 H2 → H2 p = some (.lst (ts.map V.ref)) → ts.length = xs.length →
  (∀ (j : Nat) (t : Addr), ts[j]? = some t → H1 t = none ∧ t ≠ p ∧ ∃ x y, xs[j]? = some x ∧ ys[j]? = some y ∧ H2 t = some (.tup [x, y])) → Q (.ref p) H2
theorem refs_all : ∀ as : List Addr, Vals (as.map V.ref) (as.map Value.ref)
  | [] => .nil
  | _ :: r => .cons rfl (refs_all r)
theorem run_lz (hc : X.calm = true) {Q : VK} {a b : Addr} {xs ys : List V} (I : Inv X pins σ H s) (ha : SqT X.K H a xs) (hb : SqT X.K H b ys) (hl : xs.length = ys.length)
    (q : ∀ (p : Addr) (ts : List Addr) (H2 : Hp), H p = none → Ex H H2 → H2 p = some (.lst (ts.map V.ref)) → ts.length = xs.length → (∀ (j : Nat) (t : Addr), ts[j]? = some t → H t = none ∧ t ≠ p ∧ ∃ x y, xs[j]? = some x ∧ ys[j]? = some y ∧ H2 t = some (.tup [x, y])) → Q (.ref p) H2) :
    wpAny (model X.prog X.w) X.A (call (.type "zip") [.ref a, .ref b]) (fun v s1 => wpAny (model X.prog X.w) X.A (call (.type "list") [v]) (EP X pins σ Q) X.xe s1) X.xe s := by
  obtain ⟨ia, ra, ta, za⟩ := I.tuple ha
  obtain ⟨ib, rb, tb, zb⟩ := I.tuple hb
  have la : a < s.heap.objs.size := ta.lt
  have lb : b < s.heap.objs.size := tb.lt
  refine RZ.call_zipT (show s.heap.IsTuple a ia.toArray from ta) (show s.heap.IsTuple b ib.toArray from tb) fun h1 hz hTI hTO hi1 hi2 hsz kp => ?_
  generalize hn : s.heap.objs.size = n at *
  have D : ZipApart (n + 4) (n + 2) (n + 3) n (n + 1) a b := by
    constructor
    all_goals first | exact Nat.ne_of_lt (by show _ < _; omega) | exact Nat.ne_of_gt (by show _ < _; omega) | exact Nat.ne_of_lt (Nat.lt_of_lt_of_le la (by omega)) | exact Nat.ne_of_lt (Nat.lt_of_lt_of_le lb (by omega))
  have hS : (h1.push { cls := .type "list", data := .seq #[] }).get? h1.objs.size = some { cls := .type "list", data := .seq #[] } := Heap.get?_push_size _ rfl
  have up : ∀ b o, h1.get? b = some o → (h1.push { cls := .type "list", data := .seq #[] }).get? b = some o := fun b o e => Heap.get?_push_of_some _ e
  have szp : (h1.push { cls := .type "list", data := .seq #[] }).objs.size = n + 6 := by rw [Heap.size_push, hsz]
  refine callType_codes (Q₁ := fun obj s₁ => obj = .ref h1.objs.size ∧ s₁ = { s with heap := h1.push { cls := .type "list", data := .seq #[] } }) PySem.F.called_list (PySem.F.typeCall_list_1 _) PySem.F.entry_list_init (code_list_new _ ⟨rfl, rfl⟩) fun obj s₁ h₁ => ?_
  obtain ⟨rfl, rfl⟩ := h₁
  have eS : h1.objs.size = n + 5 := hsz
  have ta1 : h1.IsTuple a ia.toArray := (show s.heap.IsTuple a ia.toArray from ta).at fun o e => kp a o e
  have tb1 : h1.IsTuple b ib.toArray := (show s.heap.IsTuple b ib.toArray from tb).at fun o e => kp b o e
  have lenI : ia.toArray.size = ib.toArray.size := by rw [List.size_toArray, List.size_toArray, ← ra.length, ← rb.length]; exact hl
  have hSn : h1.objs.size ≠ n + 4 ∧ h1.objs.size ≠ n + 2 ∧ h1.objs.size ≠ n + 3 ∧ h1.objs.size ≠ n ∧ h1.objs.size ≠ n + 1 ∧ h1.objs.size ≠ a ∧ h1.objs.size ≠ b := by
    rw [eS]
    refine ⟨?_, ?_, ?_, ?_, ?_, ?_, ?_⟩
    · exact Nat.ne_of_gt (by show _ < _; omega)
    · exact Nat.ne_of_gt (by show _ < _; omega)
    · exact Nat.ne_of_gt (by show _ < _; omega)
    · exact Nat.ne_of_gt (by show _ < _; omega)
    · exact Nat.ne_of_gt (by show _ < _; omega)
    · exact Nat.ne_of_gt (Nat.lt_of_lt_of_le la (by omega))
    · exact Nat.ne_of_gt (Nat.lt_of_lt_of_le lb (by omega))
  have lts : n + 4 < n + 6 ∧ n + 2 < n + 6 ∧ n + 3 < n + 6 ∧ n < n + 6 ∧ n + 1 < n + 6 := by omega
  refine ⟨⟨_, hS, rfl⟩, PySem.F.args_list_init_2 _ _, z_init (A := X.A.in1) (s := { s with heap := h1.push { cls := .type "list", data := .seq #[] } }) (xs := ia.toArray) (ys := ib.toArray) (I.ok.hd hc) D (by rw [show (({ s with heap := h1.push { cls := .type "list", data := .seq #[] } } : Shared).heap.objs.size) = n + 6 from szp]; exact lts) hSn lenI (by rw [List.size_toArray, ← ra.length]; exact za) (up _ _ hz)
    ⟨up _ _ hTI, hi1.at fun o e => up _ _ e, hi2.at fun o e => up _ _ e, ta1.at fun o e => up _ _ e, tb1.at fun o e => up _ _ e, .inl ⟨up _ _ hz, _, _, up _ _ hTO⟩⟩ hS fun h' tk acc cap as k a1 a2 a3 a4 a5 => ⟨rfl, ?_⟩⟩
  rw [show (({ s with heap := h1.push { cls := .type "list", data := .seq #[] } } : Shared).heap.objs.size) = n + 6 from szp] at a3
  have keep : ∀ b o, s.heap.get? b = some o → h'.get? b = some o := fun c o e => by
    have hc : c < n := by rw [← hn]; exact Heap.lt_size e
    have f : ∀ m, n ≤ m → c ≠ m := fun m hm => Nat.ne_of_lt (Nat.lt_of_lt_of_le hc hm)
    exact k c o (by rw [eS]; exact f _ (by omega)) (f _ (by omega)) (f _ (by omega)) (f _ (Nat.le_refl _)) (f _ (by omega)) (up _ _ (kp c o e))
  have gone : ∀ m, n ≤ m → s.heap.get? m = none := fun m hm => by
    cases e : s.heap.get? m with
    | none => rfl
    | some o => exact absurd (Heap.lt_size e) (by rw [hn]; exact Nat.not_lt.mpr hm)
  have hl2 : as.length = xs.length := by rw [a2, List.size_toArray, ← ra.length]
  have at_ : ∀ (j : Nat) (t : Addr), as[j]? = some t → n + 6 ≤ t ∧ ∃ x y u v, xs[j]? = some x ∧ ys[j]? = some y ∧ RelV x u ∧ RelV y v ∧ IsPair h' t u v := fun j t hj => by
    obtain ⟨b1, u, v, e1, e2, e3⟩ := a3 j t hj
    have hjl : j < xs.length := by rw [← hl2]; exact (List.getElem?_eq_some_iff.mp hj).1
    have hjl2 : j < ys.length := by rw [← hl]; exact hjl
    obtain ⟨u', g1, g2⟩ := Vals.get ra (List.getElem?_eq_getElem hjl)
    obtain ⟨v', f1, f2⟩ := Vals.get rb (List.getElem?_eq_getElem hjl2)
    have e1' : ia[j]? = some u := by simpa using e1
    have e2' : ib[j]? = some v := by simpa using e2
    rw [g1] at e1'
    rw [f1] at e2'
    cases e1'
    cases e2'
    exact ⟨b1, _, _, u, v, List.getElem?_eq_getElem hjl, List.getElem?_eq_getElem hjl2, g2, f2, e3⟩
  have zl : (xs.zip ys).length = xs.length := by rw [List.length_zip, hl, Nat.min_self]
  have tupAt : ∀ (j : Nat) (t : Addr) x y, as[j]? = some t → xs[j]? = some x → ys[j]? = some y → Hz as (xs.zip ys) H t = some (.tup [x, y]) := fun j t x y hj h1 h2 => by
    unfold Hz
    rw [zip_look a4 hj ((List.getElem?_zip_eq_some (z := (x, y))).mpr ⟨h1, h2⟩)]
  have offT : ∀ c, c ∉ as → Hz as (xs.zip ys) H c = H c := fun c hc => by
    unfold Hz
    cases e : (as.zip (xs.zip ys)).lookup c with
    | none => rfl
    | some p => obtain ⟨j, h1, _⟩ := zip_find e; exact absurd (List.mem_of_getElem? h1) hc
  have big : ∀ t ∈ as, n + 6 ≤ t := fun t ht => by
    obtain ⟨j, hj⟩ := List.getElem?_of_mem ht
    exact (at_ j t hj).1
  have nS : n + 5 ∉ as := fun h => Nat.lt_irrefl _ (Nat.lt_of_lt_of_le (by omega : n + 5 < n + 6) (big _ h))
  have Hn : ∀ m, n ≤ m → H m = none := fun m hm => H_none I (gone m hm)
  have acL : acc.toList.length = xs.length := by rw [a5, List.length_map, hl2]
  have exH : Ex H (upd (Hz as (xs.zip ys) H) (n + 5) (.lst (as.map V.ref))) := fun c o e => by
    have hc : c < n := by
      rcases Nat.lt_or_ge c n with z | z
      · exact z
      · rw [Hn c z] at e; cases e
    rw [upd_ne (Nat.ne_of_lt (Nat.lt_of_lt_of_le hc (by omega))), offT c fun h => Nat.lt_irrefl _ (Nat.lt_of_lt_of_le hc (Nat.le_trans (by omega) (big c h)))]
    exact e
  show EP X pins σ Q (.ref h1.objs.size) { s with heap := h', toks := tk }
  refine ⟨.ref (n + 5), upd (Hz as (xs.zip ys) H) (n + 5) (.lst (as.map V.ref)), laidN (t' := tk) I keep (fun c hne => ?_) (fun c o e hH => ?_), by rw [eS]; rfl, q (n + 5) as _ (Hn _ (by omega)) exH upd_same hl2 fun j t hj => ?_⟩
  · rcases Nat.lt_or_ge c n with z | z
    · exfalso
      apply hne
      rw [upd_ne (Nat.ne_of_lt (Nat.lt_of_lt_of_le z (by omega))), offT c fun h => Nat.lt_irrefl _ (Nat.lt_of_lt_of_le z (Nat.le_trans (by omega) (big c h)))]
    · exact gone c z
  · by_cases e5 : c = n + 5
    · subst e5
      rw [upd_same] at e
      cases e
      refine ⟨by rw [List.length_map, hl2]; exact za, acc.toList, cap, ?_, ?_⟩
      · rw [a5]; exact refs_all as
      · rw [eS] at a1; rw [Array.toArray_toList]; exact a1
    · rw [upd_ne e5] at e
      unfold Hz at e
      cases e2 : (as.zip (xs.zip ys)).lookup c with
      | none => rw [e2] at e; rw [hH] at e; cases e
      | some p =>
        rw [e2] at e
        obtain ⟨j, h1, h2⟩ := zip_find e2
        obtain ⟨x, y⟩ := p
        cases e
        obtain ⟨g1, g2⟩ := List.getElem?_zip_eq_some.mp h2
        obtain ⟨_, x', y', u, v, f1, f2, f3, f4, f5⟩ := at_ j c h1
        rw [g1] at f1
        rw [g2] at f2
        cases f1
        cases f2
        exact ⟨by show 2 ≤ sizeLine; decide, [u, v], .cons f3 (.cons f4 .nil), ⟨_, f5, rfl, _, rfl⟩⟩
  · obtain ⟨b1, x, y, u, v, f1, f2, f3, f4, f5⟩ := at_ j t hj
    have tn : t ≠ n + 5 := Nat.ne_of_gt (Nat.lt_of_lt_of_le (by omega : n + 5 < n + 6) b1)
    exact ⟨Hn t (Nat.le_trans (by omega) b1), tn, x, y, f1, f2, by rw [upd_ne tn]; exact tupAt j t x y hj f1 f2⟩
theorem pe_lz {a b : Expr} {ta : TA} {p pos p2 pos2 : Pos} (hc : X.calm = true) (hm : X.mg "list" = none) (hm2 : X.mg "zip" = none) (ha : PA X [a, b] ta) (hg : Gl X "list") (hg2 : Gl X "zip")
    (hs : starEach [.Call (.Name "zip" p2) [a, b] [] pos2] X.env = (false, eval (.Call (.Name "zip" p2) [a, b] [] pos2) X.env) :: starEach [] X.env) (hs2 : starEach [a, b] X.env = (false, eval a X.env) :: starEach [b] X.env) (hpl : (backTo pos2 (starEach [b] X.env)).any (·.1) = false) :
    PE X (.Call (.Name "list" p) [.Call (.Name "zip" p2) [a, b] [] pos2] [] pos) (tLz X.K ta) := by
  refine ⟨fun pins s σ H Q I h => ?_⟩
  refine Call_ (ld_blt I hg hm boot_list (PyProof.Rows.callWith_type1 (args_cons (Call_ (ld_blt I hg2 hm2 boot_zip (PyProof.Rows.callWith_type1 (thn (ha.run pos2 pins s σ H _ I h) fun us s1 ⟨vs, H1, I1, r1, q1⟩ => ?_) hs2 hpl))) hs) hs rfl))
  obtain ⟨a, b, xs, ys, rfl, h1, h2, hl, q⟩ := q1
  obtain ⟨u1, u2, rfl, ru1, ru2⟩ := vals2 r1
  cases ru1
  cases ru2
  refine thn (run_lz hc I1 h1 h2 hl q) fun v s2 h2 => args_nil h2
end
end Lk
end

section
set_option Elab.async false
set_option linter.all false
set_option maxRecDepth 100000
set_option maxHeartbeats 1000000
/-! Targets, iteration, statements, comprehensions. -/
namespace Lk
open PySem PySem.Spec L2
open PyProof.Rows hiding St
open Evl (Ex)

/-! ### changes of the context -/
section
variable {F : Fm} {Γ Γ' : Ct} {σ : L2.St} {H H' Hs : Hp}
theorem Env.addOwn (E : Env F Γ σ H) {p : Addr} {O : OP} (hp : H p = none) (s : Step F.T (F.S Γ.own) H H') (ho : O.p p H' (hid (F.S (Γ.own ++ [(p, O)])) H')) : Env F { Γ with own := Γ.own ++ [(p, O)] } σ H' := by
  have E' := E.go s
  have vx : Ex (F.vw Γ H) (hid (F.S (Γ.own ++ [(p, O)])) H') := view_add hp s.ex
  have np : p ∉ Γ.own.map (·.1) := fun z => by
    have := E.hdom (Fm.S_or.mpr (.inr z))
    exact this hp
  refine ⟨E'.step, E'.ok, fun e he => ?_, fun e he => ?_, ?_, fun i P e => ?_, E'.len, fun e he => e.2.mono vx (E.fx e he)⟩
  · rcases List.mem_append.mp he with he | he
    · exact E.new e he
    · rw [List.mem_singleton.mp he]
      cases q : F.H0 p with
      | none => rfl
      | some o =>
        exfalso
        cases z : F.S0 p with
        | true => exact E.hdom (Fm.S_or.mpr (.inl z)) hp
        | false =>
          have := E.step.ex p o (by rw [hid_in z]; exact q)
          rw [hid_in z, hp] at this
          cases this
  · rcases List.mem_append.mp he with he | he
    · refine e.2.st (s.own e.1 (Fm.S_or.mpr (.inr (List.mem_map_of_mem he))) ?_) vx (E.own e he)
      cases q : F.T.reg e.1 with
      | false => rfl
      | true => exact absurd (E.new e he) (F.dom _ (F.reg _ q))
    · rw [List.mem_singleton.mp he]; exact ho
  · rw [List.map_append, List.nodup_append]
    refine ⟨E.nd, by simp, fun a ha b hb z => ?_⟩
    subst z
    have : a = p := by simpa using hb
    exact np (this ▸ ha)
  · obtain ⟨v, a, b⟩ := E.imm i P e
    exact ⟨v, a, P.mono vx b⟩
theorem Env.regF (E : Env F Γ σ H) {p : Addr} {O : OP} (hj : (p, O) ∈ Γ.own) : F.T.reg p = false := by
  cases q : F.T.reg p with
  | false => rfl
  | true => exact absurd (E.new _ hj) (F.dom _ (F.reg _ q))
theorem hid_same {S : Addr → Bool} {p : Addr} (h : S p = true) (hk : ∀ b, b ≠ p → H' b = H b) : hid S H' = hid S H := by
  funext a
  by_cases e : a = p
  · subst e; rw [hid_out h, hid_out h]
  · unfold hid; rw [hk a e]
theorem Step.mut {T : Th} {S : Addr → Bool} {p : Addr} (s : Step T S Hs H) (hp : Hs p = none) (hr : T.reg p = false) (hS : S p = false) (hk : ∀ b, b ≠ p → H' b = H b) : Step T S Hs H' := by
  refine ⟨fun a o e => ?_, fun a q r => ?_, fun h => T.loc (fun a q => hk a fun z => by rw [z] at q; rw [q] at hr; cases hr) (s.ok h)⟩
  · have ne : a ≠ p := fun z => by subst z; rw [hid_ex _ _ _ _ e] at hp; cases hp
    have := s.ex a o e
    unfold hid at this ⊢
    rw [hk a ne]; exact this
  · rw [hk a fun z => by rw [z, hS] at q; cases q]; exact s.own a q r
theorem Env.setOwn (E : Env F Γ σ H) {p : Addr} {O O' : OP} {j : Nat} (hj : Γ.own[j]? = some (p, O)) (hk : ∀ b, b ≠ p → H' b = H b) (ho : O'.p p H' (F.vw Γ H)) : Env F { Γ with own := Γ.own.set j (p, O') } σ H' := by
  have hm : (p, O) ∈ Γ.own := List.mem_of_getElem? hj
  have hr := E.regF hm
  have hmap : (Γ.own.set j (p, O')).map (·.1) = Γ.own.map (·.1) := by
    rw [List.map_set]
    apply List.ext_getElem?
    intro i
    by_cases e : j = i
    · subst e
      have hl : j < (Γ.own.map (·.1)).length := by rw [List.length_map]; exact (List.getElem?_eq_some_iff.mp hj).1
      rw [List.getElem?_set_self hl, List.getElem?_map, hj]; rfl
    · rw [List.getElem?_set_ne e]
  have hS : F.S (Γ.own.set j (p, O')) = F.S Γ.own := by
    funext a
    have : F.S (Γ.own.set j (p, O')) a = true ↔ F.S Γ.own a = true := by rw [Fm.S_or, Fm.S_or, hmap]
    cases q : F.S Γ.own a with
    | true => exact this.mpr q
    | false =>
      cases z : F.S (Γ.own.set j (p, O')) a with
      | false => rfl
      | true => rw [this.mp z] at q; cases q
  have hv : F.vw { Γ with own := Γ.own.set j (p, O') } H' = F.vw Γ H := by
    show hid (F.S (Γ.own.set j (p, O'))) H' = hid (F.S Γ.own) H
    rw [hS]
    exact hid_same (Fm.S_or.mpr (.inr (List.mem_map_of_mem hm))) hk
  have s0 : F.S0 p = false := by
    cases q : F.S0 p with
    | false => rfl
    | true => exact absurd (E.new _ hm) (F.dom _ q)
  refine ⟨E.step.mut (E.new _ hm) hr s0 hk, F.T.loc (fun a q => hk a fun z => by rw [z] at q; rw [q] at hr; cases hr) E.ok, fun e he => ?_, fun e he => ?_, by rw [show ({ Γ with own := Γ.own.set j (p, O') } : Ct).own = Γ.own.set j (p, O') from rfl, hmap]; exact E.nd, fun i P e => ?_, E.len, fun e he => ?_⟩
  · have : e.1 ∈ (Γ.own.set j (p, O')).map (·.1) := List.mem_map_of_mem he
    rw [hmap] at this
    obtain ⟨e', h1, h2⟩ := List.mem_map.mp this
    rw [← h2]; exact E.new e' h1
  · rw [hv]
    rcases List.mem_or_eq_of_mem_set he with he' | he'
    · by_cases q : e.1 = p
      · have : e = (p, O') := by
          obtain ⟨i, hi⟩ := List.getElem?_of_mem he
          by_cases z : j = i
          · subst z
            rw [List.getElem?_set_self (List.getElem?_eq_some_iff.mp hj).1] at hi
            exact (Option.some.inj hi).symm
          · exfalso
            rw [List.getElem?_set_ne z] at hi
            have n1 : (Γ.own.map (·.1))[j]? = some p := by rw [List.getElem?_map, hj]; rfl
            have n2 : (Γ.own.map (·.1))[i]? = some p := by rw [List.getElem?_map, hi, ← q]; rfl
            have l1 := (List.getElem?_eq_some_iff.mp n1).1
            have l2 := (List.getElem?_eq_some_iff.mp n2).1
            exact z ((List.getElem?_inj l1 E.nd).mp (n1.trans n2.symm))
        rw [this]; exact ho
      · exact e.2.st (hk _ q) (Ex.refl _) (E.own e he')
    · rw [he']; exact ho
  · obtain ⟨v, a, b⟩ := E.imm i P e
    exact ⟨v, a, by rw [hv]; exact b⟩
  · rw [hv]; exact E.fx e he
/-- an own thing is shown: a name stands for it from here on -/
def Ct.show (Γ : Ct) (i j : Nat) (O : OP) : Ct := { imm := Γ.imm.set i (some O.vp), own := Γ.own.eraseIdx j, fx := Γ.fx }
theorem erase_nd {l : List (Addr × OP)} {j : Nat} {p : Addr} {O : OP} (nd : (l.map (·.1)).Nodup) (hj : l[j]? = some (p, O)) : p ∉ (l.eraseIdx j).map (·.1) := by
  intro hp
  obtain ⟨e, he, rfl⟩ := List.mem_map.mp hp
  obtain ⟨i, hne, hi⟩ := List.mem_eraseIdx_iff_getElem?.mp he
  have n1 : (l.map (·.1))[j]? = some e.1 := by rw [List.getElem?_map, hj]; rfl
  have n2 : (l.map (·.1))[i]? = some e.1 := by rw [List.getElem?_map, hi]; rfl
  have l1 := (List.getElem?_eq_some_iff.mp n1).1
  have l2 := (List.getElem?_eq_some_iff.mp n2).1
  exact hne ((List.getElem?_inj l2 nd).mp (n2.trans n1.symm))
theorem erase_sub {F : Fm} {l : List (Addr × OP)} {j : Nat} : ∀ a, F.S (l.eraseIdx j) a = true → F.S l a = true := fun a h => by
  rcases Fm.S_or.mp h with h | h
  · exact Fm.S_or.mpr (.inl h)
  · obtain ⟨e, he, rfl⟩ := List.mem_map.mp h
    exact Fm.S_or.mpr (.inr (List.mem_map_of_mem (List.mem_of_mem_eraseIdx he)))
/-- an own thing is forgotten -/
theorem Env.drop (E : Env F Γ σ H) (j : Nat) : Env F { Γ with own := Γ.own.eraseIdx j } σ H := by
  have vx : Ex (F.vw Γ H) (F.vw { Γ with own := Γ.own.eraseIdx j } H) := hid_sub erase_sub
  refine ⟨E.step, E.ok, fun e he => E.new e (List.mem_of_mem_eraseIdx he), fun e he => e.2.st rfl vx (E.own e (List.mem_of_mem_eraseIdx he)), ?_, fun i P e => ?_, E.len, fun e he => e.2.mono vx (E.fx e he)⟩
  · show ((Γ.own.eraseIdx j).map (·.1)).Nodup
    exact E.nd.sublist ((List.eraseIdx_sublist _ _).map _)
  · obtain ⟨v, a, b⟩ := E.imm i P e
    exact ⟨v, a, P.mono vx b⟩
theorem Env.shown (E : Env F Γ σ H) {p : Addr} {O : OP} {j : Nat} (hj : Γ.own[j]? = some (p, O)) : O.vp.p (.ref p) (F.vw { Γ with own := Γ.own.eraseIdx j } H) := by
  have hm : (p, O) ∈ Γ.own := List.mem_of_getElem? hj
  refine O.out (hid_sub erase_sub) ?_ (E.own _ hm)
  refine hid_in ?_
  cases q : F.S (Γ.own.eraseIdx j) p with
  | false => rfl
  | true =>
    rcases Fm.S_or.mp q with q | q
    · exact absurd (E.new _ hm) (F.dom _ q)
    · exact absurd q (erase_nd E.nd hj)
theorem Env.show (E : Env F Γ σ H) {p : Addr} {O : OP} {i j : Nat} (hi : Γ.imm[i]? = some (some (vE (.ref p)))) (hj : Γ.own[j]? = some (p, O)) : Env F (Γ.show i j O) σ H := by
  have E2 := E.drop j
  obtain ⟨v, a, b⟩ := E.imm i _ hi
  cases (show v = .ref p from b)
  have := E2.put (i := i) (P := O.vp) (v := .ref p) (E.shown hj)
  have hs : σ.set i (some (.ref p)) = σ := by
    apply List.ext_getElem?
    intro k
    by_cases z : i = k
    · subst z
      rw [List.getElem?_set_self (List.getElem?_eq_some_iff.mp a).1, a]
    · rw [List.getElem?_set_ne z]
  rw [hs] at this
  exact this
/-- less is known -/
def WkI : List (Option VP) → List (Option VP) → Prop
  | [], [] => True
  | _ :: l, none :: m => WkI l m
  | some P :: l, some Q :: m => (∀ v K, P.p v K → Q.p v K) ∧ WkI l m
  | _, _ => False
theorem WkI.refl : ∀ l : List (Option VP), WkI l l
  | [] => trivial
  | none :: l => WkI.refl l
  | some _ :: l => ⟨fun _ _ h => h, WkI.refl l⟩
theorem WkI.len : ∀ {l m : List (Option VP)}, WkI l m → l.length = m.length
  | [], [], _ => rfl
  | _ :: l, none :: m, h => by rw [List.length_cons, List.length_cons, WkI.len (l := l) (m := m) (by cases ‹Option VP› <;> exact h)]
  | some _ :: l, some _ :: m, h => by rw [List.length_cons, List.length_cons, WkI.len h.2]
  | none :: _, some _ :: _, h => h.elim
  | [], none :: _, h => h.elim
  | [], some _ :: _, h => h.elim
  | none :: _, [], h => h.elim
  | some _ :: _, [], h => h.elim
theorem WkI.get : ∀ {l m : List (Option VP)} {i : Nat} {Q : VP}, WkI l m → m[i]? = some (some Q) → ∃ P, l[i]? = some (some P) ∧ ∀ v K, P.p v K → Q.p v K
  | [], [], _, _, _, e => nomatch e
  | x :: l, none :: m, i, Q, h, e => by
    cases i with
    | zero => cases e
    | succ k => exact WkI.get (l := l) (m := m) (i := k) (by cases x <;> exact h) e
  | some P :: l, some Q' :: m, i, Q, h, e => by
    cases i with
    | zero => cases e; exact ⟨P, rfl, h.1⟩
    | succ k => exact WkI.get (l := l) (m := m) (i := k) h.2 e
  | none :: _, some _ :: _, _, _, h, _ => h.elim
  | [], none :: _, _, _, h, _ => h.elim
  | [], some _ :: _, _, _, h, _ => h.elim
theorem Env.weak (E : Env F Γ σ H) {im : List (Option VP)} (h : WkI Γ.imm im) : Env F { Γ with imm := im } σ H :=
  ⟨E.step, E.ok, E.new, E.own, E.nd, fun i P e => (let ⟨Q, a, b⟩ := h.get e; let ⟨v, c, d⟩ := E.imm i Q a; ⟨v, c, b _ _ d⟩), E.len.trans h.len, E.fx⟩
/-- facts may be added, forgotten -/
theorem Env.fact (E : Env F Γ σ H) {v : V} {P : VP} (h : P.p v (F.vw Γ H)) : Env F { Γ with fx := (v, P) :: Γ.fx } σ H :=
  ⟨E.step, E.ok, E.new, E.own, E.nd, E.imm, E.len, fun e he => by
    rcases List.mem_cons.mp he with z | z
    · rw [z]; exact h
    · exact E.fx e z⟩
theorem Env.unfact (E : Env F Γ σ H) {l : List (V × VP)} (h : ∀ e ∈ l, e ∈ Γ.fx) : Env F { Γ with fx := l } σ H := ⟨E.step, E.ok, E.new, E.own, E.nd, E.imm, E.len, fun e he => E.fx e (h e he)⟩
end

/-! ### targets -/
theorem wipe_set {i : Nat} {x : Option V} : ∀ {vs : List Nat} {σ : L2.St}, i ∈ vs → wipe (σ.set i x) vs = wipe σ vs := by
  have key : ∀ (vs : List Nat) (σ : L2.St), (wipe (σ.set i x) vs).set i none = (wipe σ vs).set i none := by
    intro vs
    induction vs with
    | nil => intro σ; show (σ.set i x).set i none = σ.set i none; rw [List.set_set]
    | cons v vs ih =>
      intro σ
      show ((wipe (σ.set i x) vs).set v none).set i none = ((wipe σ vs).set v none).set i none
      by_cases e : v = i
      · subst e; rw [List.set_set, List.set_set, ih]
      · rw [List.set_comm _ _ e, ih, List.set_comm _ _ e]
  intro vs
  induction vs with
  | nil => intro σ h; exact nomatch h
  | cons v vs ih =>
    intro σ h
    show (wipe (σ.set i x) vs).set v none = (wipe σ vs).set v none
    by_cases e : v = i
    · subst e; exact key vs σ
    · rw [ih ((List.mem_cons.mp h).resolve_left (Ne.symm e))]
def Wp (js : List Nat) (σ σ' : L2.St) : Prop := ∀ vs, (∀ i ∈ js, i ∈ vs) → wipe σ' vs = wipe σ vs
def JG (F : Fm) (X : Cx) (Γ : Ct) (tg : Expr) (js : List Nat) (P : VP) (Γ' : Ct) : Prop := ∀ (σ : L2.St) (H : Hp) (v : V) (Q : L2.St → Hp → Prop), Env F Γ σ H → P.p v (F.vw Γ H) → (∀ σ', Env F Γ' σ' H → Wp js σ σ' → Q σ' H) → oG X tg v σ H Q
def oGs (X : Cx) (ts : List Expr) : TGs := fun vs σ H Q => ∀ (pins : List (Addr × Obj)) (s : Shared) (us : List Value), Inv X pins σ H s → Vals vs us → wpAny (model X.prog X.w) X.A (assignInOrder ((assignEach ts X.env).map (·.2)) us) (fun _ s' => ∃ σ' H', Inv X pins σ' H' s' ∧ Q σ' H') X.xe s
theorem pGs {X : Cx} {ts : List Expr} : PGs X ts (oGs X ts) := ⟨fun pins s _ _ _ us _ I r h => h pins s us I r⟩
theorem oGs_of {X : Cx} {ts : List Expr} {t : TGs} (h : PGs X ts t) {vs : List V} {σ : L2.St} {H : Hp} {Q : L2.St → Hp → Prop} (q : t vs σ H Q) : oGs X ts vs σ H Q := fun pins s us I r => h.run pins s σ H vs us Q I r q
def JGs (F : Fm) (X : Cx) (Γ : Ct) (ts : List Expr) (js : List Nat) (Ps : List VP) (Γ' : Ct) : Prop := ∀ (σ : L2.St) (H : Hp) (vs : List V) (Q : L2.St → Hp → Prop), Env F Γ σ H → AllP Ps vs (F.vw Γ H) → (∀ σ', Env F Γ' σ' H → Wp js σ σ' → Q σ' H) → oGs X ts vs σ H Q
section
variable {F : Fm} {X : Cx} {Γ Γ' Γ'' : Ct} {pos : Pos} {tg : Expr} {ts : List Expr} {P : VP} {Ps : List VP} {js ks : List Nat}
theorem jg_name (i : Nat) {x : Str} (hN : X.N.Nodup) (hi : X.N[i]? = some x := by rfl) (hx : Loc X.env.scope x := by first | exact .inl rfl | exact .inr rfl) (hf : X.fn x = true ∨ X.env.scope.names.lookup x = some .local := by first | exact .inl rfl | exact .inr rfl) :
    JG F X Γ (.Name x pos) [i] P (Γ.put i P) := fun σ H v Q E hv k => oG_of (pg_name hN hi hx hf) (k _ (E.put hv) fun vs h => wipe_set (h i (List.mem_singleton_self i)))
theorem jgs_nil : JGs F X Γ [] [] [] Γ := fun σ H vs Q E hv k => oGs_of pgs_nil ⟨by cases hv; rfl, k σ E fun _ _ => rfl⟩
theorem jgs_cons (h : JG F X Γ tg js P Γ') (t : JGs F X Γ' ts ks Ps Γ'') (ho : Γ'.own = Γ.own := by rfl) (hs : (assignEach (tg :: ts) X.env).map (·.2) = assign tg X.env :: (assignEach ts X.env).map (·.2) := by rfl) : JGs F X Γ (tg :: ts) (js ++ ks) (P :: Ps) Γ'' :=
  fun σ H vs Q E hv k => oGs_of (pgs_cons pG pGs hs) (by
    cases hv with
    | cons h1 h2 =>
      refine ⟨_, _, rfl, h σ H _ _ E h1 fun σ1 E1 w1 => t σ1 H _ _ E1 (by rw [show F.vw Γ' H = F.vw Γ H from by unfold Fm.vw; rw [ho]]; exact h2) fun σ2 E2 w2 => k σ2 E2 fun vs hh => ?_⟩
      rw [w2 vs fun i hi => hh i (List.mem_append_right _ hi), w1 vs fun i hi => hh i (List.mem_append_left _ hi)])
theorem jg_tup {k : Nat} (hc : X.calm = true) (h : JGs F X Γ ts js Ps Γ') (hn : (assignEach ts X.env).length = Ps.length := by rfl) (hst : (assignEach ts X.env).findIdx? (·.1) = none := by rfl) : JG F X Γ (.Tuple ts k pos) js (vT Ps) Γ' :=
  fun σ H v Q E ⟨a, xs, h1, h2, h3⟩ q => oG_of (pg_tup hc pGs hn hst) ⟨a, xs, h1, SqT.of (hid_ex _ _ _ _ h2), h3.length, h σ H xs Q E h3 q⟩
theorem jg_imp {P' : VP} (h : JG F X Γ tg js P Γ') (hi : ∀ v K, P'.p v K → P.p v K) : JG F X Γ tg js P' Γ' := fun σ H v Q E hv k => h σ H v Q E (hi _ _ hv) k
theorem jg_tupD {k : Nat} {ds : List D} (h : JG F X Γ (.Tuple ts k pos) js (vT (ds.map vD)) Γ') : JG F X Γ (.Tuple ts k pos) js (vD (.tup ds)) Γ' := jg_imp h fun v K => vT_D.mpr
end

/-! ### statements -/
structure PD where
  nx : Ct → Prop
  rt : VP
  bk : Ct → Prop := fun _ => False
  ct : Ct → Prop := fun _ => False
structure Fits (F : Fm) (D : PD) (E : Ends) : Prop where
  nx : ∀ Γ σ H, D.nx Γ → Env F Γ σ H → E.nx σ H
  bk : ∀ Γ σ H, D.bk Γ → Env F Γ σ H → E.bk σ H
  ct : ∀ Γ σ H, D.ct Γ → Env F Γ σ H → E.ct σ H
  rt : ∀ v H, Step F.T F.S0 F.H0 H → D.rt.p v (hid F.S0 H) → E.rt v H
def JS (F : Fm) (X : Cx) (Γ : Ct) (st : List Stmt) (D : PD) : Prop := ∀ (σ : L2.St) (H : Hp) (E : Ends), Env F Γ σ H → Fits F D E → oSs X st E σ H
section
variable {F : Fm} {X : Cx} {Γ Γ' : Ct} {st : Stmt} {rest body els : List Stmt} {pos pos' : Pos} {e c o i : Expr} {P : VP} {D : PD} {O : OP}
/-- a statement by its rule, the rest behind it -/
theorem js_st {t : TS} (h : PS X st t) (r : ∀ (σ : L2.St) (H : Hp) (E : Ends), Env F Γ σ H → Fits F D E → t { E with nx := oSs X rest E } σ H) : JS F X Γ (st :: rest) D := fun σ H E h1 h2 => oSs_of (pss_cons h pSs) (r σ H E h1 h2)
theorem js_nil (h : D.nx Γ) : JS F X Γ [] D := fun σ H E h1 h2 => oSs_of pss_nil (h2.nx Γ σ H h h1)
theorem js_wk (im : List (Option VP)) (h : WkI Γ.imm im) (k : JS F X { Γ with imm := im } rest D) : JS F X Γ rest D := fun σ H E h1 h2 => k σ H E (h1.weak h) h2
theorem js_of (h : ∀ σ H, Env F Γ σ H → Env F Γ' σ H) (k : JS F X Γ' rest D) : JS F X Γ rest D := fun σ H E h1 h2 => k σ H E (h σ H h1) h2
theorem js_set {x : Str} (n : Nat) (hN : X.N.Nodup) (he : JE F X Γ e P) (k : JS F X (Γ.put n P) rest D) (hi : X.N[n]? = some x := by rfl) (hx : Loc X.env.scope x := by first | exact .inl rfl | exact .inr rfl)
    (hs : swapsWith e (some (.Name x pos')) pos.line X.env = pure false := by rfl) (hf : X.fn x = true ∨ X.env.scope.names.lookup x = some .local := by first | exact .inl rfl | exact .inr rfl) : JS F X Γ (.Assign [.Name x pos'] e pos :: rest) D :=
  js_st (ps_set hN hi hx pE hs hf) fun σ H E h1 h2 => he σ H _ h1 fun v H1 s p => k _ _ _ ((h1.go s).put p) h2
/-- some value of a kind -/
theorem js_setE {α : Sort _} {f : α → VP} {x : Str} (n : Nat) (hN : X.N.Nodup) (he : JE F X Γ e (vEx f)) (k : ∀ a, JS F X (Γ.put n (f a)) rest D) (hi : X.N[n]? = some x := by rfl) (hx : Loc X.env.scope x := by first | exact .inl rfl | exact .inr rfl)
    (hs : swapsWith e (some (.Name x pos')) pos.line X.env = pure false := by rfl) (hf : X.fn x = true ∨ X.env.scope.names.lookup x = some .local := by first | exact .inl rfl | exact .inr rfl) : JS F X Γ (.Assign [.Name x pos'] e pos :: rest) D :=
  js_st (ps_set hN hi hx pE hs hf) fun σ H E h1 h2 => he σ H _ h1 fun v H1 s ⟨a, p⟩ => k a _ _ _ ((h1.go s).put p) h2
abbrev Ct.add (Γ : Ct) (n : Nat) (p : Addr) (O : OP) : Ct := { imm := Γ.imm.set n (some (vE (.ref p))), own := Γ.own ++ [(p, O)], fx := Γ.fx }
theorem js_new {x : Str} (n : Nat) (hN : X.N.Nodup) (he : JN F X Γ e O) (k : ∀ p, JS F X (Γ.add n p O) rest D) (hi : X.N[n]? = some x := by rfl) (hx : Loc X.env.scope x := by first | exact .inl rfl | exact .inr rfl)
    (hs : swapsWith e (some (.Name x pos')) pos.line X.env = pure false := by rfl) (hf : X.fn x = true ∨ X.env.scope.names.lookup x = some .local := by first | exact .inl rfl | exact .inr rfl) : JS F X Γ (.Assign [.Name x pos'] e pos :: rest) D :=
  js_st (ps_set hN hi hx pE hs hf) fun σ H E h1 h2 => he σ H _ h1 fun p H1 s hp ho => k p _ _ _ (Env.put (Γ := { Γ with own := Γ.own ++ [(p, O)] }) (h1.addOwn hp s ho) rfl) h2
theorem js_tg {tg : Expr} {js : List Nat} (he : JE F X Γ e P) (hg : JG F X Γ tg js P Γ') (k : JS F X Γ' rest D) (hs : swapsWithSole [tg] e pos.line X.env = pure false := by rfl) (hw : swappedStores [tg] e X.env = pure none := by rfl)
    (h1 : (assignEach [tg] X.env).map (·.2) = [assign tg X.env] := by rfl) : JS F X Γ (.Assign [tg] e pos :: rest) D :=
  js_st (ps_asg pE pG hs hw h1) fun σ H E h1 h2 => he σ H _ h1 fun v H1 s p => hg σ H1 v _ (h1.go s) p fun σ' E' _ => k σ' H1 _ E' h2
theorem js_drop (he : JE F X Γ e P) (k : JS F X Γ rest D) (hs : swapsWith e none pos.line X.env = pure false := by rfl) : JS F X Γ (.Expr e pos :: rest) D := js_st (ps_expr pE hs) fun σ H E h1 h2 => he σ H _ h1 fun v H1 s p => k _ _ _ (h1.go s) h2
theorem js_ret (he : JE F X Γ e P) (hp : ∀ v K, P.p v K → D.rt.p v K) : JS F X Γ (.Return (some e) pos :: rest) D := js_st (ps_ret pE) fun σ H E h1 h2 => he σ H _ h1 fun v H1 s p =>
  h2.rt v H1 (h1.go s).step (D.rt.mono (hid_sub fun a q => Fm.S_or.mpr (.inl q)) (hp _ _ p))
/-- a new thing is given back -/
theorem js_retN (he : JN F X Γ e O) (hp : ∀ (p : Addr) (K : Hp), F.H0 p = none → (∃ K', Ex K' K ∧ O.p p K K') → D.rt.p (.ref p) K) : JS F X Γ (.Return (some e) pos :: rest) D := js_st (ps_ret pE) fun σ H E h1 h2 => he σ H _ h1 fun p H1 s hn ho => by
  have E2 := h1.addOwn hn s ho
  refine h2.rt _ H1 E2.step (hp p _ (E2.new (p, O) (List.mem_append_right _ (List.mem_singleton_self _))) ⟨hid (F.S (Γ.own ++ [(p, O)])) H1, hid_sub fun a q => Fm.S_or.mpr (.inl q), ?_⟩)
  refine O.st ?_ (Ex.refl _) ho
  refine hid_in ?_
  cases q : F.S0 p with
  | false => rfl
  | true => exact absurd hn (h1.hdom (Fm.S_or.mpr (.inl q)))
theorem js_retNone (hp : ∀ K, D.rt.p .non K) : JS F X Γ (.Return none pos :: rest) D := js_st ps_retN fun σ H E h1 h2 => h2.rt _ _ h1.step (hp _)
theorem js_if {B : Bool → Prop} (M : Ct → Prop) (hc : JT F X Γ c B) (ha : B true → JS F X Γ body { D with nx := M }) (hb : B false → JS F X Γ els { D with nx := M }) (k : ∀ Γ', M Γ' → JS F X Γ' rest D) : JS F X Γ (.If c body els pos :: rest) D :=
  js_st (ps_if pT pSs pSs) fun σ H E h1 h2 => hc σ H _ h1 fun b H1 s p => by
    have E1 := h1.go s
    have f : Fits F { D with nx := M } { E with nx := oSs X rest E } := ⟨fun Γ' σ' H' m e => k Γ' m σ' H' E e h2, h2.bk, h2.ct, h2.rt⟩
    cases b with
    | true => rw [if_pos rfl]; exact ha p σ H1 _ E1 f
    | false => rw [if_neg (fun z => nomatch z)]; exact hb p σ H1 _ E1 f
/-- the test does not hold: on -/
theorem js_skip (hc : JT F X Γ c (· = false)) (k : JS F X Γ rest D) : JS F X Γ (.If c body [] pos :: rest) D := js_if (· = Γ) hc (fun h => nomatch h) (fun _ => js_nil rfl) fun Γ' h => by subst h; exact k
theorem js_bk (h : D.bk Γ) : JS F X Γ (.Break pos :: rest) D := js_st ps_break fun σ H E h1 h2 => h2.bk Γ σ H h h1
theorem js_show {p : Addr} (n j : Nat) (hi : Γ.imm[n]? = some (some (vE (.ref p)))) (hj : Γ.own[j]? = some (p, O)) (k : JS F X (Γ.show n j O) rest D) : JS F X Γ rest D := js_of (fun σ H E => E.show hi hj) k
theorem js_forget (j : Nat) (k : JS F X { Γ with own := Γ.own.eraseIdx j } rest D) : JS F X Γ rest D := js_of (fun σ H E => E.drop j) k
/-! writes -/
theorem js_put {Pv : VP} {p : Addr} {ps : List (Lk.D × VP)} {k : Lk.D} {n : Nat} (j : Nat) (hr : Room n X.A) (he : JE F X Γ e Pv) (ho : JE F X Γ o (vE (.ref p))) (hi : JE F X Γ i (vD k)) (hl : ps.length < sizeLine)
    (q : JS F X { Γ with own := Γ.own.set j (p, oX X.prog X.w (putP ps k Pv)) } rest D) (hj : Γ.own[j]? = some (p, oX X.prog X.w ps) := by rfl) (ht : isT k = true := by rfl) (h8 : k.depth ≤ 8 := by exact Nat.le_of_ble_eq_true rfl)
    (ha : ∀ v, assign (.Subscript o i pos') X.env v = (do
      let ov ← holding [v] (eval o X.env)
      let iv ← holding [v, ov] (eval i X.env)
      standAt pos'
      holding [v, ov, iv] (setItem ov iv v)
      release [v, ov, iv] []) := by intro _; rfl)
    (hs : swapsWithSole [.Subscript o i pos'] e pos.line X.env = pure false := by rfl) (hw : swappedStores [.Subscript o i pos'] e X.env = pure none := by rfl) (h1 : (assignEach [.Subscript o i pos'] X.env).map (·.2) = [assign (.Subscript o i pos') X.env] := by rfl) :
    JS F X Γ (.Assign [.Subscript o i pos'] e pos :: rest) D :=
  js_st (ps_asg pE (pg_sub pE pE (set_dx2 hr.units) ha) hs hw h1) fun σ H E g1 g2 => he σ H _ g1 fun v H1 s1 p1 => ho σ H1 _ (g1.go s1) fun ov H2 s2 p2 => hi σ H2 _ ((g1.go s1).go s2) fun iv H3 s3 p3 => by
    have E3 := ((g1.go s1).go s2).go s3
    cases (show ov = .ref p from p2)
    obtain ⟨kvs, d1, d2⟩ := own_at E3 hj
    refine ⟨p, kvs, k, F.vw Γ H3, rfl, hid_ex _ _, d1, p3, ht, h8, by rw [d2.length]; exact hl, fun H4 hk d3 => ?_⟩
    exact q σ H4 E (E3.setOwn hj hk ⟨_, d3, d2.put (Pv.mono (s2.trans s3).ex p1)⟩) g2
end

/-! ### iteration -/
structure WalkP (J : It) (Ps : List VP) (v : V) (Pc : VP) : Prop where
  go : ∀ i H, i < Ps.length → Pc.p v H → J.go i H
  stop : ∀ H, Pc.p v H → J.stop Ps.length H
  yld : ∀ (i : Nat) (H : Hp) (x : V) (H' : Hp) (S : Addr → Bool), Pc.p v (hid S H) → (∀ a, S a = true → H a ≠ none) → J.yld i H x H' → ∀ P, Ps[i]? = some P → Ex H H' ∧ P.p x (hid S H')
def JI (F : Fm) (X : Cx) (Γ : Ct) (tg iter : Expr) (Ps : List VP) : Prop := ∀ (σ : L2.St) (H : Hp) (R : It → Hp → Prop), Env F Γ σ H → (∀ J v Pc H', Step F.T (F.S Γ.own) H H' → Pc.p v (F.vw Γ H') → WalkP J Ps v Pc → R J H') → oI X tg iter σ H R
section
variable {F : Fm} {X : Cx} {Γ Γ' : Ct} {tg iter e : Expr} {Ps : List VP} {pos p0 : Pos} {D : PD} {rest body : List Stmt}
theorem ji_imp {Ps' : List VP} (h : JI F X Γ tg iter Ps) (e : Ps = Ps') : JI F X Γ tg iter Ps' := e ▸ h
theorem ji_tup (he : JE F X Γ e (vT Ps)) : JI F X Γ tg e Ps := fun σ H R E k => oI_of (pi_tup pE) (he σ H _ E fun v H1 s ⟨a, vs, h1, h2, h3⟩ =>
  ⟨a, h1, ⟨vs, SqT.of (hid_ex _ _ _ _ h2)⟩, k _ v ⟨fun _ K => K a = some (.tup vs) ∧ AllP Ps vs K, fun e h => ⟨e a _ h.1, h.2.mono e⟩⟩ H1 s ⟨h2, h3⟩
    ⟨fun i H hi h => by
      obtain ⟨x, hx, _⟩ := h.2.get (List.getElem?_eq_getElem hi)
      exact ⟨vs, x, SqT.of h.1, hx⟩, fun H h => ⟨vs, SqT.of h.1, by rw [h.2.length]; exact Nat.le_refl _⟩, fun i H x H' S h hS hy P hP => by
      obtain ⟨rfl, hx⟩ := hy
      obtain ⟨y, hy, py⟩ := h.2.get hP
      have := hx vs (SqT.of (hid_ex _ _ _ _ h.1))
      rw [hy] at this
      cases this
      exact ⟨Ex.refl _, py⟩⟩⟩)
theorem ji_tupD {ds : List Lk.D} (he : JE F X Γ e (vD (.tup ds))) : JI F X Γ tg e (ds.map vD) := ji_tup (je_tD he)
theorem ji_lst (he : JE F X Γ e (vL Ps)) : JI F X Γ tg e Ps := fun σ H R E k => oI_of (pi_list pE) (he σ H _ E fun v H1 s ⟨a, vs, h1, h2, h3⟩ =>
  ⟨a, h1, ⟨vs, SqL.of (hid_ex _ _ _ _ h2)⟩, k _ v ⟨fun _ K => K a = some (.lst vs) ∧ AllP Ps vs K, fun e h => ⟨e a _ h.1, h.2.mono e⟩⟩ H1 s ⟨h2, h3⟩
    ⟨fun i H hi h => by
      obtain ⟨x, hx, _⟩ := h.2.get (List.getElem?_eq_getElem hi)
      exact ⟨vs, x, SqL.of h.1, hx⟩, fun H h => ⟨vs, SqL.of h.1, by rw [h.2.length]; exact Nat.le_refl _⟩, fun i H x H' S h hS hy P hP => by
      obtain ⟨rfl, hx⟩ := hy
      obtain ⟨y, hy, py⟩ := h.2.get hP
      have := hx vs (SqL.of (hid_ex _ _ _ _ h.1))
      rw [hy] at this
      cases this
      exact ⟨Ex.refl _, py⟩⟩⟩)
theorem walk_rng {lo : Int} {n : Nat} {v : V} {Pc : VP} : WalkP (Itr lo n) ((List.range n).map fun (i : Nat) => vZ (lo + (i : Int))) v Pc :=
  ⟨fun i H hi _ => by rw [List.length_map, List.length_range] at hi; exact hi, fun H _ => by rw [List.length_map, List.length_range]; exact Nat.le_refl _, fun i H x H' S _ _ hy P hP => by
    obtain ⟨rfl, rfl⟩ := hy
    rw [List.getElem?_map] at hP
    obtain ⟨j, e, rfl⟩ := Option.map_eq_some_iff.mp hP
    have : j = i := by
      have := List.getElem?_eq_some_iff.mp e
      obtain ⟨h1, h2⟩ := this
      rw [List.getElem_range] at h2
      exact h2.symm
    subst this
    exact ⟨Ex.refl _, vD_num.mpr rfl⟩⟩
theorem ji_range1 {n : Nat} (hm : X.mg "range" = none) (ha : JE F X Γ e (vN n)) (hn : n ≤ 100000000 := by omega) (hg : Gl X "range" := by rfl) (hs : starEach [e] X.env = [(false, eval e X.env)] := by rfl) : JI F X Γ tg (.Call (.Name "range" p0) [e] [] pos) ((List.range n).map vN) :=
  fun σ H R E k => oI_of (pi_range1 hg hm pA hs) (ja1 ha hs σ H _ E fun vs H1 s h => by
    cases h with
    | cons h1 h2 =>
      cases h2
      cases vD_num.mp h1
      refine ⟨n, rfl, by omega, by omega, ?_⟩
      have e : (List.range n).map vN = (List.range n).map fun (i : Nat) => vZ (0 + (i : Int)) := by
        apply List.map_congr_left
        intro i _
        show vZ _ = vZ _
        rw [Int.zero_add]
      refine k _ (.non) ⟨fun _ _ => True, fun _ _ => trivial⟩ H1 s trivial ?_
      rw [e, Int.toNat_natCast]
      exact walk_rng)
theorem ji_range2 {a b : Expr} {i j : Nat} (hm : X.mg "range" = none) (ha : JE F X Γ a (vN i)) (hb : JE F X Γ b (vN j)) (hi : i ≤ 100000000 := by omega) (hj : j ≤ 100000000 := by omega) (hg : Gl X "range" := by rfl) (hs : starEach [a, b] X.env = [(false, eval a X.env), (false, eval b X.env)] := by rfl) (hs2 : starEach [b] X.env = [(false, eval b X.env)] := by rfl) :
    JI F X Γ tg (.Call (.Name "range" p0) [a, b] [] pos) ((List.range (j - i)).map fun k => vN (i + k)) :=
  fun σ H R E k => oI_of (pi_range2 hg hm pA hs hs2) (ja_cons ha (ja1 hb hs2) (hs.trans (by rw [hs2])) σ H _ E fun vs H1 s h => by
    cases h with
    | cons h1 h2 =>
      cases h2 with
      | cons h2 h3 =>
        cases h3
        cases vD_num.mp h1
        cases vD_num.mp h2
        refine ⟨i, j, rfl, by omega, ?_⟩
        have e : ((List.range (j - i)).map fun k => vN (i + k)) = (List.range (((j : Int) - i).toNat)).map fun (k : Nat) => vZ ((i : Int) + (k : Int)) := by
          rw [show ((j : Int) - i).toNat = j - i by omega]
          apply List.map_congr_left
          intro k _
          show vZ _ = vZ _
          rw [Int.natCast_add]
        refine k _ (.non) ⟨fun _ _ => True, fun _ _ => trivial⟩ H1 s trivial ?_
        rw [e]
        exact walk_rng)
theorem ji_keysX {ps : List (Lk.D × VP)} (he : JE F X Γ e (vX X.prog X.w ps)) : JI F X Γ tg e (ps.map fun q => vD q.1) := fun σ H R E k => oI_of (pi_keysX pE) (he σ H _ E fun v H1 s ⟨a, kvs, h1, h2, h3⟩ => by
  obtain ⟨es, ep, xs, ha, hs, hl, hh, hn, hk⟩ := h2
  have de : DXe X.prog X.w kvs a es ep (F.vw Γ H1) := ⟨xs, ha, hs, hl, hh, hn, hk⟩
  have el : kvs.length = (ps.map fun q => vD q.1).length := by rw [List.length_map]; exact h3.length
  refine ⟨a, es, ep, kvs, h1, de.mono (hid_ex _ _), k _ v ⟨fun _ K => DXe X.prog X.w kvs a es ep K, fun e h => h.mono e⟩ H1 s de ?_⟩
  refine ⟨fun i H hi h => ⟨h, by rw [el]; exact hi⟩, fun H h => ⟨h, by rw [el]; exact Nat.le_refl _⟩, fun i H x H' S h hS hy P hP => ?_⟩
  obtain ⟨rfl, en, b, he1, he2, rfl⟩ := hy
  refine ⟨Ex.refl _, ?_⟩
  obtain ⟨xs', ha', _, _, hh', _, hk'⟩ := h
  rw [List.getElem?_map] at hP
  obtain ⟨pq, e1, rfl⟩ := Option.map_eq_some_iff.mp hP
  have hi : i < kvs.length := by rw [el, List.length_map]; exact (List.getElem?_eq_some_iff.mp e1).1
  obtain ⟨k2, v2, y, g1, g2, g3, g4, _⟩ := kx_get hk' hi
  have q := entry_at hh' i
  rw [g2, he1] at q
  have q' : en = entryOfKey (nestedKind X.prog X.w) y := Option.some.inj q
  obtain ⟨PP, e3, _⟩ := h3.get g1
  rw [e1] at e3
  cases e3
  have : b = y.2.1 := by rw [q'] at he2; exact (Value.ref.inj he2).symm
  rw [this]
  exact g4)
end
end Lk
end

section
set_option Elab.async false
set_option linter.all false
set_option maxRecDepth 100000
set_option maxHeartbeats 1000000
/-! Loops, comprehensions, calls, defs. -/
namespace Lk
open PySem PySem.Spec L2
open PyProof.Rows hiding St
open Evl (Ex)

/-! ### loops -/
abbrev Ct.fact (Γ : Ct) (v : V) (P : VP) : Ct := { imm := Γ.imm, own := Γ.own, fx := (v, P) :: Γ.fx }
structure Wk (Γ Γ' : Ct) (v : V) (P : VP) : Prop where
  imm : WkI Γ.imm Γ'.imm
  own : Γ.own = Γ'.own
  fx : Γ.fx = (v, P) :: Γ'.fx
section
variable {F : Fm} {X : Cx} {Γ Γ' : Ct} {rest body : List Stmt} {pos : Pos} {tg iter c : Expr} {D : PD} {Ps : List VP}
theorem Wk.env {v : V} {P : VP} {σ : L2.St} {H : Hp} (w : Wk Γ Γ' v P) (E : Env F Γ σ H) : Env F (Γ'.fact v P) σ H := by
  have := E.weak w.imm
  obtain ⟨im, ow, fx⟩ := Γ
  obtain ⟨im', ow', fx'⟩ := Γ'
  obtain ⟨w1, w2, w3⟩ := w
  simp only at w2 w3
  subst w2 w3
  exact this
theorem js_for (G : Nat → Ct → Prop) (hp : X.xe = fun _ _ => False) (hc : X.calm = true) (hi : JI F X Γ tg iter Ps) (h0 : G 0 Γ)
    (hb : ∀ i P Γ1, Ps[i]? = some P → G i Γ1 → ∀ v Pc, ∃ Γ2 js, JG F X (Γ1.fact v Pc) tg js P Γ2 ∧ JS F X Γ2 body { nx := fun Γ3 => ∃ Γ4, G (i + 1) Γ4 ∧ Wk Γ3 Γ4 v Pc, rt := D.rt })
    (hr : ∀ Γ', G Ps.length Γ' → JS F X Γ' rest D) (hs : ∀ x, foldedSetIterable iter X.env x = pure x := by intro _; rfl) : JS F X Γ (.For tg iter body [] pos :: rest) D :=
  js_st (ps_for (by rw [hp]; exact PassesOwn.never) hc pI pG pSs hs) fun σ H E h1 h2 => hi σ H _ h1 fun J v Pc H1 s hv wk => by
    refine ⟨fun i m σ H => i + m = Ps.length ∧ ∃ Γ', G i Γ' ∧ Env F (Γ'.fact v Pc) σ H, ⟨Ps.length, Nat.zero_add _, Γ, h0, (h1.go s).fact hv⟩, fun i m σ H ⟨em, Γ1, g1, E1⟩ => ?_⟩
    have hpc : Pc.p v (hid (F.S Γ1.own) H) := E1.fx (v, Pc) (List.mem_cons_self ..)
    have hpH : Pc.p v H := Pc.mono (hid_ex _ _) hpc
    cases m with
    | zero =>
      have : i = Ps.length := by omega
      subst this
      exact .inl ⟨wk.stop H hpH, hr Γ1 g1 σ H E (E1.unfact fun e he => List.mem_cons_of_mem _ he) h2⟩
    | succ m =>
      have hi' : i < Ps.length := by omega
      refine .inr ⟨wk.go i H hi' hpH, fun σ H => ∃ Γ', G (i + 1) Γ' ∧ Env F (Γ'.fact v Pc) σ H, fun σ' H' h => ⟨m, Nat.lt_succ_self _, by omega, h⟩, fun x H' hy => ?_⟩
      obtain ⟨ex, hx⟩ := wk.yld i H x H' _ hpc (fun a q => E1.hdom q) hy _ (List.getElem?_eq_getElem hi')
      obtain ⟨Γ2, js, hg, hb⟩ := hb i _ Γ1 (List.getElem?_eq_getElem hi') g1 v Pc
      refine hg σ H' x _ (E1.go (E1.ex ex)) hx fun σ2 E2 _ => hb σ2 H' _ E2 ⟨fun Γ3 σ3 H3 ⟨Γ4, g4, w⟩ E3 => ⟨Γ4, g4, w.env E3⟩, fun _ _ _ h => h.elim, fun _ _ _ h => h.elim, h2.rt⟩
structure Wk0 (Γ Γ' : Ct) : Prop where
  imm : WkI Γ.imm Γ'.imm
  own : Γ.own = Γ'.own
  fx : Γ.fx = Γ'.fx
theorem Wk0.env {σ : L2.St} {H : Hp} (w : Wk0 Γ Γ') (E : Env F Γ σ H) : Env F Γ' σ H := by
  have := E.weak w.imm
  obtain ⟨im, ow, fx⟩ := Γ
  obtain ⟨im', ow', fx'⟩ := Γ'
  obtain ⟨w1, w2, w3⟩ := w
  simp only at w2 w3
  subst w2 w3
  exact this
theorem js_while (G : Nat → Ct → Prop) (hp : X.xe = fun _ _ => False) {m0 : Nat} (h0 : G m0 Γ)
    (hb : ∀ m Γ1, G m Γ1 → ∃ B, JT F X Γ1 c B ∧ (B true → JS F X Γ1 body { nx := fun Γ3 => ∃ m' Γ4, m' < m ∧ G m' Γ4 ∧ Wk0 Γ3 Γ4, rt := D.rt }) ∧ (B false → JS F X Γ1 rest D)) : JS F X Γ (.While c body [] pos :: rest) D :=
  js_st (ps_while (by rw [hp]; exact PassesOwn.never) pT pSs) fun σ H E h1 h2 => by
    refine ⟨fun m σ H => ∃ Γ', G m Γ' ∧ Env F Γ' σ H, ⟨m0, Γ, h0, h1⟩, fun m σ H ⟨Γ1, g1, E1⟩ => ?_⟩
    obtain ⟨B, hc, hb1, hb2⟩ := hb m Γ1 g1
    refine hc σ H _ E1 fun b H1 s p => ?_
    cases b with
    | true =>
      rw [if_pos rfl]
      exact ⟨fun σ H => ∃ m' Γ', m' < m ∧ G m' Γ' ∧ Env F Γ' σ H, fun σ' H' ⟨m', Γ', a, b, c⟩ => ⟨m', a, Γ', b, c⟩, hb1 p σ H1 _ (E1.go s) ⟨fun Γ3 σ3 H3 ⟨m', Γ4, a, g4, w⟩ E3 => ⟨m', Γ4, a, g4, w.env E3⟩, fun _ _ _ h => h.elim, fun _ _ _ h => h.elim, h2.rt⟩⟩
    | false => rw [if_neg (fun z => nomatch z)]; exact hb2 p σ H1 E (E1.go s) h2
end

/-! ### comprehensions -/
def oTs (X : Cx) (ifs : List Expr) : TT := fun σ H Q => ∀ (pins : List (Addr × Obj)) (s : Shared), Inv X pins σ H s →
  wpAny (model X.prog X.w) X.A (forIn ifs true fun c r => if r = true then do let ok ← isTrue c X.env (eval c X.env); pure (ForInStep.yield ok) else pure (ForInStep.yield r)) (TP X pins σ Q) X.xe s
theorem pTs {X : Cx} {ifs : List Expr} : PTs X ifs (oTs X ifs) := ⟨fun pins s _ _ _ I h => h pins s I⟩
abbrev JTs (F : Fm) (X : Cx) (Γ : Ct) (ifs : List Expr) (B : Bool → Prop) : Prop := RT F Γ (oTs X ifs) B
section
variable {F : Fm} {X : Cx} {Γ : Ct} {c : Expr}
theorem oTs_of {ifs : List Expr} {t : TT} (h : PTs X ifs t) {σ : L2.St} {H : Hp} {Q : Bool → Hp → Prop} (q : t σ H Q) : oTs X ifs σ H Q := fun pins s I => h.run pins s σ H Q I q
theorem jts_nil : JTs F X Γ [] (· = true) := fun σ H Q E k => oTs_of pts_nil (k true H (Step.refl _ _ _) rfl)
theorem jts_one {B : Bool → Prop} (h : JT F X Γ c B) : JTs F X Γ [c] B := fun σ H Q E k => oTs_of (pts_one pT) (h σ H Q E k)
end
def wipeI (im : List (Option VP)) : List Nat → List (Option VP)
  | [] => im
  | v :: vs => (wipeI im vs).set v none
theorem wipe_get (σ : L2.St) {i : Nat} : ∀ {vs : List Nat}, i ∉ vs → (wipe σ vs)[i]? = σ[i]?
  | [], _ => rfl
  | v :: vs, h => by
    show ((wipe σ vs).set v none)[i]? = _
    rw [List.getElem?_set_ne (fun z => h (by rw [z]; exact List.mem_cons_self ..)), wipe_get σ (fun z => h (List.mem_cons_of_mem _ z))]
theorem wipeI_len (im : List (Option VP)) : ∀ vs : List Nat, (wipeI im vs).length = im.length
  | [] => rfl
  | v :: vs => by
    show ((wipeI im vs).set v none).length = _
    rw [List.length_set, wipeI_len im vs]
theorem wipeI_get {im : List (Option VP)} {i : Nat} {P : VP} : ∀ {vs : List Nat}, (wipeI im vs)[i]? = some (some P) → im[i]? = some (some P) ∧ i ∉ vs
  | [], h => ⟨h, fun z => nomatch z⟩
  | v :: vs, h => by
    have h : ((wipeI im vs).set v none)[i]? = some (some P) := h
    by_cases e : v = i
    · subst e
      have hl : v < (wipeI im vs).length := by
        have := (List.getElem?_eq_some_iff.mp h).1
        rw [List.length_set] at this
        exact this
      rw [List.getElem?_set_self hl] at h
      cases h
    · rw [List.getElem?_set_ne e] at h
      obtain ⟨a, b⟩ := wipeI_get h
      exact ⟨a, fun z => (List.mem_cons.mp z).elim (fun q => e q.symm) b⟩
abbrev Ct.comp (Γ : Ct) (vs : List Nat) (A : Addr) (O : OP) (v : V) (P : VP) : Ct := { imm := wipeI Γ.imm vs, own := Γ.own ++ [(A, O)], fx := (v, P) :: Γ.fx }
theorem Env.wipe {F : Fm} {Γ : Ct} {σ : L2.St} {H : Hp} (E : Env F Γ σ H) (vs : List Nat) : Env F { Γ with imm := wipeI Γ.imm vs } (L2.wipe σ vs) H :=
  ⟨E.step, E.ok, E.new, E.own, E.nd, fun i P e => by
    obtain ⟨a, b⟩ := wipeI_get e
    obtain ⟨v, h1, h2⟩ := E.imm i P a
    exact ⟨v, (wipe_get σ b).trans h1, h2⟩, by rw [wipe_length, wipeI_len]; exact E.len, E.fx⟩
theorem wipe_twice (σ : L2.St) : ∀ vs : List Nat, L2.wipe (L2.wipe σ vs) vs = L2.wipe σ vs := by
  have key : ∀ (us vs : List Nat), (∀ i ∈ us, i ∈ vs) → ∀ τ : L2.St, L2.wipe (L2.wipe τ us) vs = L2.wipe τ vs := by
    intro us
    induction us with
    | nil => intro vs _ τ; rfl
    | cons u us ih =>
      intro vs h τ
      show L2.wipe ((L2.wipe τ us).set u none) vs = _
      rw [wipe_set (h u (List.mem_cons_self ..)), ih vs (fun i hi => h i (List.mem_cons_of_mem _ hi))]
  exact fun vs => key vs vs (fun _ h => h) σ
abbrev cmpX (X : Cx) (scope : Scope) (s : Shared) (H : Hp) (C : Addr) (cl : List (Str × Addr)) (fp : List Addr) : Cx := X.blk s H scope (compEnvC scope cl C X.env) fp
section
variable {F : Fm} {X : Cx} {Γ : Ct} {tg iter elt : Expr} {ifs : List Expr} {scope : Scope} {own : List (Str × Nat)} {pos spos : Pos} {α : Type}
def gAll (X : Cx) (scope : Scope) (tg : Expr) : TG := fun v σ H Q => ∀ (s : Shared) (H0 : Hp) (C : Addr) (cl : List (Str × Addr)) (fp : List Addr), oG (cmpX X scope s H0 C cl fp) tg v σ H Q
def tAll (X : Cx) (scope : Scope) (ifs : List Expr) : TT := fun σ H Q => ∀ (s : Shared) (H0 : Hp) (C : Addr) (cl : List (Str × Addr)) (fp : List Addr), oTs (cmpX X scope s H0 C cl fp) ifs σ H Q
def eAll (X : Cx) (scope : Scope) (e : Expr) : TE := fun σ H Q => ∀ (s : Shared) (H0 : Hp) (C : Addr) (cl : List (Str × Addr)) (fp : List Addr), oE (cmpX X scope s H0 C cl fp) e σ H Q
def JElt (F : Fm) (X : Cx) (scope : Scope) (Γc : Ct) (tg : Expr) (ifs : List Expr) (elt : Expr) (vs : List Nat) (P : VP) (b : Bool) (R : VP) : Prop :=
  ∃ Γ2 js, (∀ i ∈ js, i ∈ vs) ∧ Γ2.own = Γc.own ∧ ∀ (s : Shared) (H0 : Hp) (C : Addr) (cl : List (Str × Addr)) (fp : List Addr), JG F (cmpX X scope s H0 C cl fp) Γc tg js P Γ2 ∧ JTs F (cmpX X scope s H0 C cl fp) Γ2 ifs (· = b) ∧ (b = true → JE F (cmpX X scope s H0 C cl fp) Γ2 elt R)
theorem rn_lc {vs : List Nat} (xs : List α) (pf : α → VP) (bf : α → Bool) (gf : α → VP) (hi : JI F X Γ tg iter (xs.map pf)) (hl : xs.length < sizeLine)
    (hb : ∀ x ∈ xs, ∀ A O v Pc, JElt F X scope (Γ.comp vs A O v Pc) tg ifs elt vs (pf x) (bf x) (gf x)) :
    RN F Γ (tLc (oI X tg iter) (gAll X scope tg) (tAll X scope ifs) (eAll X scope elt) vs) (oL ((xs.filter bf).map gf)) := fun σ H Q E k => hi σ H _ E fun J v Pc H1 s1 hv wk A hA => by
  have E1 := E.go s1
  have hAH : H A = none := none_back E s1 hA
  have hAS : F.S Γ.own A = false := E.fresh hAH
  have hAr : F.T.reg A = false := by
    cases q : F.T.reg A with
    | false => rfl
    | true => rw [F.regS Γ.own A q] at hAS; cases hAS
  have ix : ∀ O : OP, (Γ.own ++ [(A, O)])[Γ.own.length]? = some (A, O) := fun O => by simp
  have st : ∀ O O' : OP, (Γ.own ++ [(A, O)]).set Γ.own.length (A, O') = Γ.own ++ [(A, O')] := fun O O' => by simp
  have wl : (xs.map pf).length = xs.length := List.length_map ..
  refine ⟨fun i m Hc => i + m = xs.length ∧ Env F (Γ.comp vs A (oL (((xs.take i).filter bf).map gf)) v Pc) (L2.wipe σ vs) Hc ∧ Step F.T (F.S Γ.own) H Hc, ⟨xs.length, Nat.zero_add _, ?_, s1.trans (E1.ex (Ex.new hA))⟩, fun i m Hc ⟨em, Ec, sc⟩ => ?_⟩
  · exact Env.addOwn (Γ := { imm := wipeI Γ.imm vs, own := Γ.own, fx := (v, Pc) :: Γ.fx }) ((E1.fact hv).wipe vs) hA (E1.ex (Ex.new hA)) ⟨[], upd_same, .nil⟩
  have hpc : Pc.p v (hid (F.S (Γ.own ++ [(A, oL (((xs.take i).filter bf).map gf))])) Hc) := Ec.fx (v, Pc) (List.mem_cons_self ..)
  have hpH : Pc.p v Hc := Pc.mono (hid_ex _ _) hpc
  cases m with
  | zero =>
    have : i = xs.length := by omega
    subst this
    rw [List.take_length] at Ec
    exact .inl ⟨wl ▸ wk.stop Hc hpH, k A Hc sc hAH (own_at Ec (ix _))⟩
  | succ m =>
    have hi' : i < xs.length := by omega
    refine .inr ⟨wk.go i Hc (by rw [wl]; exact hi') hpH, fun Hc => Env F (Γ.comp vs A (oL (((xs.take (i + 1)).filter bf).map gf)) v Pc) (L2.wipe σ vs) Hc ∧ Step F.T (F.S Γ.own) H Hc, fun H' h => ⟨m, Nat.lt_succ_self _, by omega, h.1, h.2⟩, fun y H' hy => ?_⟩
    have hxi : (xs.map pf)[i]? = some (pf xs[i]) := by rw [List.getElem?_map, List.getElem?_eq_getElem hi']; rfl
    obtain ⟨ex, hx⟩ := wk.yld i Hc y H' _ hpc (fun a q => Ec.hdom q) hy _ hxi
    obtain ⟨Γ2, js, hjs, how, hall⟩ := hb xs[i] (List.getElem_mem hi') A (oL (((xs.take i).filter bf).map gf)) v Pc
    have sE := Ec.ex ex
    have E' := Ec.go sE
    have tk : xs.take (i + 1) = xs.take i ++ [xs[i]] := by rw [List.take_add_one, List.getElem?_eq_getElem hi']; rfl
    intro s H0 C cl fp
    refine (hall s H0 C cl fp).1 (L2.wipe σ vs) H' y _ E' hx fun σ2 E2 w2 => ⟨(w2 vs hjs).trans (wipe_twice σ vs), fun s' H0' C' cl' fp' => ?_⟩
    have hS2 : F.S Γ2.own = F.S (Γ.own ++ [(A, oL (((xs.take i).filter bf).map gf))]) := by rw [how]
    have sub : ∀ {Ha Hb : Hp}, Step F.T (F.S (Γ.own ++ [(A, oL (((xs.take i).filter bf).map gf))])) Ha Hb → Step F.T (F.S Γ.own) Ha Hb := fun st => st.sub (fun a q => S_add.mpr (.inl q)) (F.regS _)
    refine (hall s' H0' C' cl' fp').2.1 σ2 H' _ E2 fun b H3 s3 hbb => ?_
    have hbb : b = bf xs[i] := hbb
    have s3' := s3
    rw [hS2] at s3'
    have hsc3 : Step F.T (F.S Γ.own) H H3 := sc.trans (sub (sE.trans s3'))
    cases b with
    | false =>
      rw [if_neg (fun z => nomatch z)]
      refine ⟨?_, hsc3⟩
      rw [tk, List.filter_append, List.filter_cons, ← hbb]
      simpa using E'.go s3'
    | true =>
      rw [if_pos rfl]
      intro s'' H0'' C'' cl'' fp''
      refine (hall s'' H0'' C'' cl'' fp'').2.2 hbb.symm σ2 H3 _ (E2.go s3) fun z H4 s4 hz => ?_
      have s4' := s4
      rw [hS2] at s4'
      have E4 := (E'.go s3').go s4'
      obtain ⟨acc, ha1, ha2⟩ := own_at E4 (ix _)
      have hln : acc.length ≤ i := by
        rw [ha2.length, List.length_map]
        exact Nat.le_trans (List.length_filter_le _ _) (by rw [List.length_take]; omega)
      refine ⟨acc, ha1, by omega, ?_, (hsc3.trans (sub s4')).mut hAH hAr hAS fun b hb => upd_ne hb⟩
      have := E4.setOwn (H' := upd H4 A (.lst (acc ++ [z]))) (O' := oL ((((xs.take i).filter bf).map gf) ++ [gf xs[i]])) (ix _) (fun b hb => upd_ne hb) ⟨acc ++ [z], upd_same, ha2.append (.cons (by
        have := hz
        unfold Fm.vw at this
        rw [hS2] at this
        exact this) .nil)⟩
      have e1 : ((xs.take (i + 1)).filter bf).map gf = (((xs.take i).filter bf).map gf) ++ [gf xs[i]] := by
        rw [tk, List.filter_append, List.filter_cons, ← hbb]; simp
      rw [e1]
      rw [show ((Γ.comp vs A (oL (((xs.take i).filter bf).map gf)) v Pc).own.set Γ.own.length (A, oL ((((xs.take i).filter bf).map gf) ++ [gf xs[i]]))) = Γ.own ++ [(A, oL ((((xs.take i).filter bf).map gf) ++ [gf xs[i]]))] from st _ _] at this
      exact this
theorem jn_lc (own : List (Str × Nat)) (xs : List α) (pf : α → VP) (bf : α → Bool) (gf : α → VP) (hc : X.calm = true) (hN : X.N.Nodup) (ok : BlkOk X.N X.env.scope scope own) (hi : JI F X Γ tg iter (xs.map pf)) (hl : xs.length < sizeLine)
    (hb : ∀ x ∈ xs, ∀ A O v Pc, JElt F X scope (Γ.comp (own.map (·.2)) A O v Pc) tg ifs elt (own.map (·.2)) (pf x) (bf x) (gf x)) (hs : ∀ x, foldedSetIterable iter X.env x = pure x := by intro _; rfl) :
    JN F X Γ (.ListComp elt [⟨tg, iter, ifs, 0⟩] scope pos) (oL ((xs.filter bf).map gf)) :=
  jn_of (pe_lc hc hN pI ok (g := gAll X scope tg) (tt := tAll X scope ifs) (te := eAll X scope elt) (fun s H C cl fp => ⟨fun pins s' σ H' v u Q I r h => h s H C cl fp pins s' u I r⟩) (fun s H C cl fp => ⟨fun pins s' σ H' Q I h => h s H C cl fp pins s' I⟩) (fun s H C cl fp => ⟨fun pins s' σ H' Q I h => h s H C cl fp pins s' I⟩) hs) (rn_lc xs pf bf gf hi hl hb)
variable {rest : List Stmt} {D : PD}
theorem js_setLc {y : Str} {py : Pos} (n : Nat) (own : List (Str × Nat)) (xs : List α) (pf : α → VP) (bf : α → Bool) (gf : α → VP) (hc : X.calm = true) (hN : X.N.Nodup) (ok : BlkOk X.N X.env.scope scope own) (hi : JI F X Γ tg iter (xs.map pf)) (hl : xs.length < sizeLine)
    (hb : ∀ x ∈ xs, ∀ A O v Pc, JElt F X scope (Γ.comp (own.map (·.2)) A O v Pc) tg ifs elt (own.map (·.2)) (pf x) (bf x) (gf x)) (k : ∀ p, JS F X (Γ.add n p (oL ((xs.filter bf).map gf))) rest D)
    (hsw : swapsWith (.ListComp elt [⟨tg, iter, ifs, 0⟩] scope pos) (some (.Name y py)) spos.line X.env = pure true) (hyl : X.env.scope.names.lookup y = some .local := by rfl) (hy : X.N[n]? = some y := by rfl) (hs : ∀ x, foldedSetIterable iter X.env x = pure x := by intro _; rfl) :
    JS F X Γ (.Assign [.Name y py] (.ListComp elt [⟨tg, iter, ifs, 0⟩] scope pos) spos :: rest) D :=
  js_st (ps_setLc hc hN hy hyl hsw pI ok (g := gAll X scope tg) (tt := tAll X scope ifs) (te := eAll X scope elt) (fun s H C cl fp => ⟨fun pins s' σ H' v u Q I r h => h s H C cl fp pins s' u I r⟩) (fun s H C cl fp => ⟨fun pins s' σ H' Q I h => h s H C cl fp pins s' I⟩) (fun s H C cl fp => ⟨fun pins s' σ H' Q I h => h s H C cl fp pins s' I⟩) hs)
    fun σ H E h1 h2 => rn_lc xs pf bf gf hi hl hb σ H _ h1 fun p H1 s hp ho => k p _ _ _ (Env.put (Γ := { Γ with own := Γ.own ++ [(p, oL ((xs.filter bf).map gf))] }) (h1.addOwn hp s ho) rfl) h2
end

/-! ### calls -/
section
variable {F : Fm} {X : Cx} {Γ : Ct} {x : Str} {p pos : Pos} {e : Expr} {es : List Expr} {id T : String} {r : List V → Hp → VK → Prop} {Ps : List VP} {P : VP} {O : OP}
theorem je_callB (hc : CallR X (.builtin id) r) (ha : JA F X Γ (e :: es) Ps) (g : GC F Γ r Ps P) (hm : X.mg x = none) (hv : bootBuiltins x = some (.builtin id)) (hg : Gl X x := by rfl) (hn : x ≠ "__name__" := by decide) (hdb : (x == ("__debug__" : Str)) = false := by decide)
    (he : starEach (e :: es) X.env = (false, eval e X.env) :: starEach es X.env := by rfl) (hpl : (backTo pos (starEach es X.env)).any (·.1) = false := by rfl) : JE F X Γ (.Call (.Name x p) (e :: es) [] pos) P :=
  je_of (pe_callB hc hg hm hv pA hn hdb he hpl) fun σ H Q E k => ha σ H _ E fun vs H1 s ps => g σ H1 vs Q (E.go s) ps fun v H2 s2 p2 => k v H2 (s.trans s2) p2
theorem je_callT (hc : CallR X (.type T) r) (ha : JA F X Γ (e :: es) Ps) (g : GC F Γ r Ps P) (hm : X.mg x = none) (hv : bootBuiltins x = some (.type T)) (hg : Gl X x := by rfl) (hn : x ≠ "__name__" := by decide) (hdb : (x == ("__debug__" : Str)) = false := by decide)
    (he : starEach (e :: es) X.env = (false, eval e X.env) :: starEach es X.env := by rfl) (hpl : (backTo pos (starEach es X.env)).any (·.1) = false := by rfl) : JE F X Γ (.Call (.Name x p) (e :: es) [] pos) P :=
  je_of (pe_callTy hc hg hm hv pA hn hdb he hpl) fun σ H Q E k => ha σ H _ E fun vs H1 s ps => g σ H1 vs Q (E.go s) ps fun v H2 s2 p2 => k v H2 (s.trans s2) p2
theorem jn_callB (hc : CallR X (.builtin id) r) (ha : JA F X Γ (e :: es) Ps) (g : GCN F Γ r Ps O) (hm : X.mg x = none) (hv : bootBuiltins x = some (.builtin id)) (hg : Gl X x := by rfl) (hn : x ≠ "__name__" := by decide) (hdb : (x == ("__debug__" : Str)) = false := by decide)
    (he : starEach (e :: es) X.env = (false, eval e X.env) :: starEach es X.env := by rfl) (hpl : (backTo pos (starEach es X.env)).any (·.1) = false := by rfl) : JN F X Γ (.Call (.Name x p) (e :: es) [] pos) O :=
  jn_of (pe_callB hc hg hm hv pA hn hdb he hpl) fun σ H Q E k => ha σ H _ E fun vs H1 s ps => g σ H1 vs Q (E.go s) ps fun v H2 s2 hn p2 => k v H2 (s.trans s2) (none_back E s hn) p2
theorem jn_callT (hc : CallR X (.type T) r) (ha : JA F X Γ (e :: es) Ps) (g : GCN F Γ r Ps O) (hm : X.mg x = none) (hv : bootBuiltins x = some (.type T)) (hg : Gl X x := by rfl) (hn : x ≠ "__name__" := by decide) (hdb : (x == ("__debug__" : Str)) = false := by decide)
    (he : starEach (e :: es) X.env = (false, eval e X.env) :: starEach es X.env := by rfl) (hpl : (backTo pos (starEach es X.env)).any (·.1) = false := by rfl) : JN F X Γ (.Call (.Name x p) (e :: es) [] pos) O :=
  jn_of (pe_callTy hc hg hm hv pA hn hdb he hpl) fun σ H Q E k => ha σ H _ E fun vs H1 s ps => g σ H1 vs Q (E.go s) ps fun v H2 s2 hn p2 => k v H2 (s.trans s2) (none_back E s hn) p2

/-- what a def promises -/
def mkSp {α : Type} (pre : α → Th → Prop) (Ps : α → List VP) (R : α → Hp → VP) : Sp := fun vs H Q _ => ∃ (T : Th) (S : Addr → Bool) (a : α), (∀ b, T.reg b = true → S b = true) ∧ (∀ b, S b = true → H b ≠ none) ∧ T.ok H ∧ pre a T ∧ AllP (Ps a) vs (hid S H) ∧
  ∀ v H', Step T S H H' → (R a H).p v (hid S H') → Q v H'
/-- a def stands -/
def Fc (P : Program) (w : World) (K : PySem.W.Frag) (mg : Str → Option Value) (base : Heap) (k : Nat) (x : Str) (sp : Sp) : Prop := ∃ (f : Addr) (fd : FuncData) (ps : List Str), FnOk P w K mg base CX0 k f fd ps sp ∧ mg x = some (.ref f) ∧ PySem.W.keepIn K (.ref f) = true ∧ Binds K fd ps []
variable {k : Nat} {α : Type} {pre : α → Th → Prop} {Pf : α → List VP} {R : α → Hp → VP}
theorem je_callH (c : Fc X.prog X.w X.K X.mg X.base k x (mkSp pre Pf R)) (hr : Room k X.A) (a : α) (hp : pre a F.T) (ha : JA F X Γ (e :: es) (Pf a)) {Q : V → Hp → Hp → Prop} (hQ : ∀ H v K, (R a H).p v K → Q v H K) (hg : Gl X x := by rfl) (hdb : (x == ("__debug__" : Str)) = false := by decide)
    (he : starEach (e :: es) X.env = (false, eval e X.env) :: starEach es X.env := by rfl) (hpl : (backTo pos (starEach es X.env)).any (·.1) = false := by rfl) :
    ∀ (σ : L2.St) (H : Hp) (Qk : VK), Env F Γ σ H → (∀ v H1 H', Step F.T (F.S Γ.own) H H1 → Step F.T (F.S Γ.own) H1 H' → Q v H1 (F.vw Γ H') → Qk v H') → oE X (.Call (.Name x p) (e :: es) [] pos) σ H Qk := fun σ H Qk E kk => by
  obtain ⟨f, fd, ps, Fk, hm, hk, hb⟩ := c
  refine oE_of (pe_call (E := E0) Fk hr hg hm hk hb .nil (fun _ _ _ _ _ _ _ h => h.elim) pA hdb he hpl) (ha σ H _ E fun vs H1 s ps => ?_)
  have E1 := E.go s
  refine ⟨F.T, F.S Γ.own, a, F.regS _, fun b q => E1.hdom q, E1.ok, hp, by rw [List.append_nil]; exact ps, fun v H2 s2 h2 => kk v H1 H2 s s2 (hQ _ _ _ h2)⟩
theorem je_call (c : Fc X.prog X.w X.K X.mg X.base k x (mkSp pre Pf R)) (hr : Room k X.A) (a : α) (hp : pre a F.T) (ha : JA F X Γ (e :: es) (Pf a)) (hR : ∀ H v K, (R a H).p v K → P.p v K) (hg : Gl X x := by rfl) (hdb : (x == ("__debug__" : Str)) = false := by decide)
    (he : starEach (e :: es) X.env = (false, eval e X.env) :: starEach es X.env := by rfl) (hpl : (backTo pos (starEach es X.env)).any (·.1) = false := by rfl) : JE F X Γ (.Call (.Name x p) (e :: es) [] pos) P :=
  fun σ H Q E kk => je_callH c hr a hp ha (Q := fun v _ K => P.p v K) hR hg hdb he hpl σ H Q E fun v H1 H' s1 s2 h => kk v H' (s1.trans s2) h
/-- the value is new -/
def vNew (O : OP) (H : Hp) : VP := ⟨fun v K => ∃ p, v = .ref p ∧ H p = none ∧ O.p p K (hid (fun b => b == p) K), fun {v K K'} e ⟨p, h1, h2, h3⟩ => ⟨p, h1, h2, by
  have hd : K p ≠ none := O.dom h3
  have ep : K' p = K p := by
    cases q : K p with
    | none => exact absurd q hd
    | some o => exact e p o q
  refine O.st ep (fun a o h => ?_) h3
  cases z : (a == p) with
  | true => rw [hid_out (S := fun b => b == p) z] at h; cases h
  | false => rw [hid_in (S := fun b => b == p) z] at h ⊢; exact e a o h⟩⟩
theorem jn_call {a : α} (c : Fc X.prog X.w X.K X.mg X.base k x (mkSp pre Pf R)) (hr : Room k X.A) (hp : pre a F.T) (ha : JA F X Γ (e :: es) (Pf a)) (hR : ∀ H, R a H = vNew O H) (hg : Gl X x := by rfl) (hdb : (x == ("__debug__" : Str)) = false := by decide)
    (he : starEach (e :: es) X.env = (false, eval e X.env) :: starEach es X.env := by rfl) (hpl : (backTo pos (starEach es X.env)).any (·.1) = false := by rfl) : JN F X Γ (.Call (.Name x p) (e :: es) [] pos) O :=
  fun σ H Q E kk => je_callH c hr a hp ha (Q := fun v H1 K => (vNew O H1).p v K) (fun H v K h => by rw [hR] at h; exact h) hg hdb he hpl σ H Q E fun v H1 H' s1 s2 ⟨q, h1, h2, h3⟩ => by
    subst h1
    have hq : F.S Γ.own q = false := (E.go s1).fresh h2
    refine kk q H' (s1.trans s2) (none_back E s1 h2) (O.st (hid_in hq).symm (fun a o h => ?_) h3)
    cases z : (a == q) with
    | true => rw [hid_out (S := fun b => b == q) z] at h; cases h
    | false =>
      rw [hid_in (S := fun b => b == q) z] at h
      have ha : F.S Γ.own a = false := by
        cases y : F.S Γ.own a with
        | false => rfl
        | true =>
          have h : hid (F.S Γ.own) H' a = some o := h
          rw [hid_out y] at h
          cases h
      have h2 : H' a = some o := hid_ex _ _ _ _ h
      rw [hid_in]
      · exact h2
      · cases y : F.S (Γ.own ++ [(q, O)]) a with
        | false => rfl
        | true =>
          rcases S_add.mp y with y | y
          · rw [y] at ha; cases ha
          · exact absurd y (ne_of_beq_false z)
/-- an own thing is handed over to be read; what comes back leans on nothing -/
inductive Shw (p : Addr) (O : OP) : List VP → List VP → Prop where
  | nil : Shw p O [] []
  | same {P : VP} {l m : List VP} (t : Shw p O l m) : Shw p O (P :: l) (P :: m)
  | own {l m : List VP} (t : Shw p O l m) : Shw p O (vE (.ref p) :: l) (O.vp :: m)
theorem Shw.all {q : Addr} {O : OP} {l m : List VP} {vs : List V} {K K' : Hp} (h : Shw q O l m) (e : Ex K K') (ho : O.vp.p (.ref q) K') (ha : AllP l vs K) : AllP m vs K' := by
  induction h generalizing vs with
  | nil => cases ha; exact .nil
  | @same P l m t ih => cases ha with | cons a b => exact .cons (P.mono e a) (ih b)
  | own t ih => cases ha with | cons a b => exact .cons (by cases (show _ = V.ref q from a); exact ho) (ih b)
theorem je_callO {q : Addr} (j : Nat) (c : Fc X.prog X.w X.K X.mg X.base k x (mkSp pre Pf R)) (hr : Room k X.A) (a : α) (hp : pre a F.T) (ha : JA F X Γ (e :: es) Ps) (hs : Shw q O Ps (Pf a)) (hR : ∀ H v K K', (R a H).p v K → P.p v K') (hj : Γ.own[j]? = some (q, O) := by rfl) (hg : Gl X x := by rfl) (hdb : (x == ("__debug__" : Str)) = false := by decide)
    (he : starEach (e :: es) X.env = (false, eval e X.env) :: starEach es X.env := by rfl) (hpl : (backTo pos (starEach es X.env)).any (·.1) = false := by rfl) : JE F X Γ (.Call (.Name x p) (e :: es) [] pos) P := fun σ H Qk E kk => by
  obtain ⟨f, fd, ps, Fk, hm, hk, hb⟩ := c
  refine oE_of (pe_call (E := E0) Fk hr hg hm hk hb .nil (fun _ _ _ _ _ _ _ h => h.elim) pA hdb he hpl) (ha σ H _ E fun vs H1 s ps => ?_)
  have E1 := E.go s
  have E2 := E1.drop j
  refine ⟨F.T, F.S (Γ.own.eraseIdx j), a, F.regS _, fun b q => E2.hdom q, E1.ok, hp, by rw [List.append_nil]; exact hs.all (hid_sub erase_sub) (E1.shown hj) ps, fun v H2 s2 h2 => kk v H2 (s.trans (s2.more (fun b hb hb2 => E1.hdom hb) erase_sub)) (hR _ _ _ _ h2)⟩
end

/-! ### a def keeps its promise -/
section
variable {P : Program} {w : World} {K : PySem.W.Frag} {mg : Str → Option Value} {base : Heap} {x qual : Str} {params : Arguments} {body : List Stmt} {scope : Scope} {f : Addr} {fd : FuncData} {N ps : List Str} {k : Nat} {α : Type} {pre : α → Th → Prop} {Pf : α → List VP} {R : α → Hp → VP}
def startI (N : List Str) (Ps : List VP) : List (Option VP) := Ps.map some ++ List.replicate (N.length - Ps.length) none
theorem all_start {Ps : List VP} {vs : List V} {K : Hp} {n : Nat} (h : AllP Ps vs K) : ∀ (i : Nat) (P : VP), (Ps.map some ++ List.replicate n none)[i]? = some (some P) → ∃ v, (vs.map some ++ List.replicate n none : L2.St)[i]? = some (some v) ∧ P.p v K := by
  induction h with
  | nil =>
    intro i P e
    rw [List.map_nil, List.nil_append, List.getElem?_replicate] at e
    split at e <;> cases e
  | @cons P' v ps vs H h t ih =>
    intro i P e
    cases i with
    | zero => cases e; exact ⟨v, rfl, h⟩
    | succ j => exact ih j P e
theorem fc_of (F : FunD K x qual params body scope [] [] f fd) (gm : mg x = some (.ref f)) (S : FnScope N ps scope) (hb : Binds K fd ps []) (hl : ∀ a, (Pf a).length = ps.length)
    (h : ∀ (a : α) (Fr : Fm) (cdv : Value) (A : Around) (outer : List PySem.Env) (s : Shared) (E : XK), Room k (cxOf CX0 P w K mg base N qual scope f cdv A outer s Fr.H0 E).nox.A → pre a Fr.T →
      JS Fr (cxOf CX0 P w K mg base N qual scope f cdv A outer s Fr.H0 E).nox ⟨startI N (Pf a), [], []⟩ body { nx := fun _ => ∀ K, (R a Fr.H0).p .non K, rt := R a Fr.H0 }) : Fc P w K mg base (k + 1) x (mkSp pre Pf R) := by
  refine ⟨f, fd, ps, F.ok S (fun vs H Q E ⟨T, S, a, _, _, _, _, h4, _⟩ => by rw [h4.length, hl]) (fun cdv A outer s H vs Q E hr ⟨T, S', a, h1, h2, h3, h4, h5, h6⟩ => ⟨oSs _ body, PSs.nox pSs, ?_⟩), gm, F.kp, hb⟩
  have := h a ⟨T, S', H, h1, h2⟩ cdv A outer s E hr h4
  have hlen : vs.length = (Pf a).length := h5.length
  refine this (start N vs) H { nx := fun _ H' => Q .non H', rt := Q } ⟨Step.refl _ _ _, h3, fun e he => (nomatch he), fun e he => (nomatch he), List.nodup_nil, fun i P' e => ?_, ?_, fun e he => (nomatch he)⟩ ⟨fun Γ σ H' z Ee => h6 _ _ Ee.step (z _), fun _ _ _ z => z.elim, fun _ _ _ z => z.elim, fun v H' st z => h6 v H' st z⟩
  · obtain ⟨v, g1, g2⟩ := all_start (n := N.length - (Pf a).length) h5 i P' e
    refine ⟨v, ?_, ?_⟩
    · unfold L2.start; rw [hlen]; exact g1
    · have : hid (Fm.S ⟨T, S', H, h1, h2⟩ []) H = hid S' H := by
        congr 1
        funext b
        show (S' b || false) = S' b
        exact Bool.or_false _
      show P'.p v (hid _ H)
      rw [this]; exact g2
  · unfold L2.start startI
    rw [List.length_append, List.length_append, List.length_map, List.length_map, hlen, List.length_replicate, List.length_replicate]
end
end Lk
end

section
set_option Elab.async false
set_option linter.all false
set_option maxRecDepth 100000
set_option maxHeartbeats 1000000
/-! A comprehension that makes a dict with nested keys: its run in parts. -/
namespace Lk
open PySem PySem.Spec L2
open PyProof.Rows hiding St
open Evl (Ex)
section
variable {X : Cx}
/-- a new entry -/
theorem dictSet_x (hu : X.A.units + 64 < cLine) {pins : List (Addr × Obj)} {σ : L2.St} {H : Hp} {s : Shared} {E : Value → Shared → Prop} {A : Addr} {i v : V} {iv u : Value} {R : Hp → Prop} {Q : Unit → Shared → Prop} (I : Inv X pins σ H s) (ri : RelV i iv) (rv : RelV v u)
    (h : rPut2 X.prog X.w (.ref A) i v H R) (q : ∀ s' H', Inv X pins σ H' s' → R H' → Q () s') : wpAny (model X.prog X.w) X.A (dictSet A iv u) Q E s := by
  obtain ⟨a, kvs, k, K, ea, ex, hd, hk, ht, h8, hlt, qq⟩ := h
  cases ea
  obtain ⟨es, ep, xs, ha, hsm, hl, hl2, kx, kx2, dd⟩ := hd.at_ I ex
  obtain ⟨b, rfl⟩ := isT_ref hk ht
  cases ri
  have room : (nestedKind X.prog X.w).room X.A := by show X.A.units + 8 < cLine; omega
  refine wpAny_dictSet_heap (hsz := hl2) room (keyIs_of I (Im.mono hk ex) h8) dd fun h' dd' hs => ?_
  have hl' : (putK kvs k v).length ≤ sizeLine := by have := length_putK kvs k v; omega
  obtain ⟨H', k1, k3, I'⟩ := dx_write2 (t' := s.toks + (nestedKind X.prog X.w).draws k) I ha hsm hl' (kx.put k hk h8 rv) dd' hs
  exact q _ H' I' (qq H' k1 k3)
def tDcx (P : Program) (w : World) (wi : TI) (g : TG) (tt : TT) (tk tv : TE) (vs : List Nat) : TE := fun σ H Q => wi σ H fun J H1 => ∀ A, H1 A = none → (A == sysModules) = false → ∃ W : Nat → Nat → Hp → Prop, (∃ m, W 0 m (upd H1 A (dxO A #[] 0))) ∧ ∀ i m H, W i m H →
  (J.stop i H ∧ Q (.ref A) H) ∨ (J.go i H ∧ ∃ Nx : Hp → Prop, (∀ H', Nx H' → ∃ m', m' < m ∧ W (i + 1) m' H') ∧ ∀ x H', J.yld i H x H' → g x (wipe σ vs) H' fun σ2 H2 => wipe σ2 vs = wipe σ vs ∧ tt σ2 H2 fun b H3 =>
    if b = true then tk σ2 H3 fun y H4 => tv σ2 H4 fun z H5 => rPut2 P w (.ref A) y z H5 Nx else Nx H3)
/-- at a turn's end the block stands as at its start -/
theorem turn_ends {Y : Cx} {fp : List Addr} {tn : Nat → Heap → Prop} {i : Nat} {vs : List Nat} {σ τ : L2.St} {H' : Hp} {s' : Shared} {h : Heap} (I' : Inv Y ([] ++ pinsAt fp h) τ H' s') (hw : wipe τ vs = wipe σ vs) (st : tn i h)
    (keep : ∀ h', (∀ b ∈ fp, ∀ o, h.get? b = some o → h'.get? b = some o) → tn i h') (obj : ∀ b ∈ fp, ∃ o, h.get? b = some o) : Inv Y [] (wipe σ vs) H' s' ∧ tn i s'.heap ∧ ∀ b ∈ fp, H' b = none := by
  have at_ : ∀ b ∈ fp, ∀ o, h.get? b = some o → s'.heap.get? b = some o ∧ H' b = none := fun b hb o e => by
    have z := I'.pin (b, o) (List.mem_append_right _ (List.mem_append_right _ (mem_pinsAt hb e)))
    exact ⟨z.1, z.2.1⟩
  have hl : (wipe σ vs).length = τ.length := by rw [← hw, wipe_length]
  refine ⟨(I'.unpinned (pins := [])).weak hl fun j v e => ?_, keep _ fun b hb o e => (at_ b hb o e).1, fun b hb => ?_⟩
  · rw [← hw] at e
    exact (wipe_some e).1
  · obtain ⟨o, e⟩ := obj b hb
    exact (at_ b hb o e).2
/-- what the iterator needs of the block -/
theorem fp_blk {s3 : Shared} {H3 : Hp} {scope : Scope} {ce : PySem.Env} {fp : List Addr} {τ : L2.St} {H' : Hp} {s' : Shared} (I : Inv (X.blk s3 H3 scope ce fp) [] τ H' s') (hn : ∀ b ∈ fp, H' b = none) : ∀ b ∈ fp, FpOk (X.blk s3 H3 scope ce fp) [] H' b := fun b hb =>
  ⟨hn b hb, (I.ok.exf b hb).1, I.ok.exfs b hb, .inl hb, fun x c e => (I.ok.exf b hb).2 x c e, fun p hp => by cases hp⟩
/-- one turn of the block -/
theorem dcx_turn (hu : X.A.units + 64 < cLine) (hc : X.calm = true) {s3 : Shared} {H3 : Hp} {scope : Scope} {ce : PySem.Env} {fp : List Addr} {it : Addr} {tn : Nat → Heap → Prop} {J : It} {tg kx vx : Expr} {ifs : List Expr} {g : TG} {tt : TT} {tk tv : TE} {vs : List Nat} {σ : L2.St} {A : Addr} {i : Nat} {H5 : Hp} {s5 : Shared} {Nx : Hp → Prop}
    {Q : Shared → Prop} {E : Value → Shared → Prop}
    (T : Turn X.prog X.w X.K tg J fp it tn) (pg : PG (X.blk s3 H3 scope ce fp) tg g) (pt : PTs (X.blk s3 H3 scope ce fp) ifs tt) (pk : PE (X.blk s3 H3 scope ce fp) kx tk) (pv : PE (X.blk s3 H3 scope ce fp) vx tv)
    (I : Inv (X.blk s3 H3 scope ce fp) [] (wipe σ vs) H5 s5) (st : tn i s5.heap) (hn : ∀ b ∈ fp, H5 b = none) (go : J.go i H5)
    (step : ∀ x H', J.yld i H5 x H' → g x (wipe σ vs) H' fun σ2 H2 => wipe σ2 vs = wipe σ vs ∧ tt σ2 H2 fun b H3 => if b = true then tk σ2 H3 fun y H4 => tv σ2 H4 fun z H5 => rPut2 X.prog X.w (.ref A) y z H5 Nx else Nx H3)
    (fin : ∀ s' H', Inv (X.blk s3 H3 scope ce fp) [] (wipe σ vs) H' s' → tn (i + 1) s'.heap → (∀ b ∈ fp, H' b = none) → Nx H' → Q s') :
    wpAny (model X.prog X.w) X.A (pyNext (.ref it)) (fun r s₁ => ∃ v, r = some v ∧ wpAny (model X.prog X.w) X.A (letOwnedTupleGo tg (.ref it) v) (fun _ s₁' => wpAny (model X.prog X.w) X.A (assign tg ce v) (fun _ s₂ =>
      wpAny (model X.prog X.w) X.A (forIn ifs true fun c r => if r = true then do let ok ← isTrue c ce (eval c ce); pure (ForInStep.yield ok) else pure (ForInStep.yield r)) (fun ok s₃ =>
        if ok = true then wpAny (model X.prog X.w) X.A (eval kx ce) (fun kv s₄ => wpAny (model X.prog X.w) X.A (eval vx ce) (fun vv s₅ => wpAny (model X.prog X.w) X.A (dictSet A kv vv) (fun _ s₆ => Q s₆) E s₅) E s₄) E s₃
        else Q s₃) E s₂) E s₁') E s₁) E s5 := by
  refine thnF (T.item (X.blk s3 H3 scope ce fp) rfl rfl rfl hc i [] s5 _ H5 (fun _ _ => False) I (fp_blk I hn) st go) fun r s6 ⟨u, hr, h6⟩ => ⟨u, hr, ?_⟩
  refine thnF h6 fun _ s7 ⟨x, H7, I7, r7, y7, st7, n7⟩ => ?_
  have obj := fun b hb => (let ⟨o, e, _⟩ := T.obj _ _ st7 b hb; (⟨o, e⟩ : ∃ o, s7.heap.get? b = some o))
  refine thnF (pg.run _ s7 _ H7 x u _ (I7.pinned (fp_blk I7 n7) (T.obj _ _ st7)) r7 (step x H7 y7)) fun _ s8 ⟨τ, H8, I8, hw, q8⟩ => ?_
  have done : ∀ {s' : Shared} {H' : Hp}, Inv (X.blk s3 H3 scope ce fp) ([] ++ pinsAt fp s7.heap) τ H' s' → Nx H' → Q s' := fun {s' H'} I' nx => by
    obtain ⟨a, b, c⟩ := turn_ends I' hw st7 (fun h' k => T.keep _ _ h' st7 k) obj
    exact fin s' H' a b c nx
  refine thnF (pt.run _ s8 τ H8 _ I8 q8) fun b s9 ⟨H9, I9, q9⟩ => ?_
  cases b with
  | false => exact done I9 q9
  | true =>
    refine thnF (pk.run _ s9 τ H9 _ I9 q9) fun kv s10 ⟨yk, H10, I10, r10, q10⟩ => ?_
    refine thnF (pv.run _ s10 τ H10 _ I10 q10) fun vv s11 ⟨yv, H11, I11, r11, q11⟩ => ?_
    exact dictSet_x (X := X.blk s3 H3 scope ce fp) hu I11 r10 r11 q11 fun s12 H12 I12 nx => done I12 nx
/-- the block, from the new dict on -/
theorem dcx_block (hu : X.A.units + 64 < cLine) (hc : X.calm = true) (hN : X.N.Nodup) {kx vx tg iter : Expr} {ifs : List Expr} {scope : Scope} {own : List (Str × Nat)} {pos : Pos} {g : TG} {tt : TT} {tk tv : TE} (ok : BlkOk X.N X.env.scope scope own)
    (hg : ∀ (s : Shared) (H : Hp) (C : Addr) (cl : List (Str × Addr)) (fp : List Addr), PG (X.blk s H scope (compEnvC scope cl C X.env) fp) tg g) (ht : ∀ (s : Shared) (H : Hp) (C : Addr) (cl : List (Str × Addr)) (fp : List Addr), PTs (X.blk s H scope (compEnvC scope cl C X.env) fp) ifs tt)
    (hk : ∀ (s : Shared) (H : Hp) (C : Addr) (cl : List (Str × Addr)) (fp : List Addr), PE (X.blk s H scope (compEnvC scope cl C X.env) fp) kx tk) (hv : ∀ (s : Shared) (H : Hp) (C : Addr) (cl : List (Str × Addr)) (fp : List Addr), PE (X.blk s H scope (compEnvC scope cl C X.env) fp) vx tv)
    {pins : List (Addr × Obj)} {σ : L2.St} {H3 : Hp} {s3 : Shared} {it A : Addr} {fp : List Addr} {tn : Nat → Heap → Prop} {J : It} {Q : VK} {W : Nat → Nat → Hp → Prop} {m0 : Nat}
    (T : Turn X.prog X.w X.K tg J fp it tn) (I : Inv X pins σ H3 s3) (f3 : ∀ b ∈ fp, FpOk X pins H3 b ∧ b < s3.heap.objs.size) (st : tn 0 s3.heap) (w0 : W 0 m0 H3)
    (turn : ∀ i m H, W i m H → (J.stop i H ∧ Q (.ref A) H) ∨ (J.go i H ∧ ∃ Nx : Hp → Prop, (∀ H', Nx H' → ∃ m', m' < m ∧ W (i + 1) m' H') ∧ ∀ x H', J.yld i H x H' → g x (wipe σ (own.map (·.2))) H' fun σ2 H2 => wipe σ2 (own.map (·.2)) = wipe σ (own.map (·.2)) ∧ tt σ2 H2 fun b H3 =>
      if b = true then tk σ2 H3 fun y H4 => tv σ2 H4 fun z H5 => rPut2 X.prog X.w (.ref A) y z H5 Nx else Nx H3)) :
    codeAny (model X.prog X.w) X.A (.compStart (.DictComp kx vx [⟨tg, iter, ifs, 0⟩] scope pos) 0 (.ref it) (.ref A) (compEnvC scope (cellsFrom (s3.heap.objs.size + 1) scope.names (cloFrom X.env.cells scope.names [])) s3.heap.objs.size X.env))
      (compPost (model X.prog X.w) X.A X.xe none (EP X pins σ Q) (.ref A) s3.heap.objs.size) { s3 with heap := pushCells (s3.heap.push { cls := .type "dict", data := .dict #[] }) scope.names } := by
  have I4 := block_start I ok hN f3
  have st4 : tn 0 (pushCells (s3.heap.push { cls := .type "dict", data := .dict #[] }) scope.names) := T.keep _ _ _ st fun b _ o e => pushCells_keeps _ _ _ _ (Heap.get?_push_of_some _ e)
  have loop : codeAny (model X.prog X.w) X.A (.compLoop (.DictComp kx vx [⟨tg, iter, ifs, 0⟩] scope pos) 0 (.ref it) (.ref A) (compEnvC scope (cellsFrom (s3.heap.objs.size + 1) scope.names (cloFrom X.env.cells scope.names [])) s3.heap.objs.size X.env))
      (compPost (model X.prog X.w) X.A X.xe none (EP X pins σ Q) (.ref A) s3.heap.objs.size) { s3 with heap := pushCells (s3.heap.push { cls := .type "dict", data := .dict #[] }) scope.names } := by
    refine compLoop_anyD (fun n s' => ∃ i H', Inv (X.blk s3 H3 scope (compEnvC scope (cellsFrom (s3.heap.objs.size + 1) scope.names (cloFrom X.env.cells scope.names [])) s3.heap.objs.size X.env) fp) [] (wipe σ (own.map (·.2))) H' s' ∧ tn i s'.heap ∧ (∀ b ∈ fp, H' b = none) ∧ W i n H') ?_ m0 ⟨0, H3, I4, st4, fun b hb => (f3 b hb).1.1, w0⟩
    rintro n s5 ⟨i, H5, I5, st5, n5, w5⟩
    rcases turn i n H5 w5 with ⟨stop, qq⟩ | ⟨go, Nx, hNx, step⟩
    · refine thnF (T.done (X.blk s3 H3 scope _ fp) rfl rfl rfl hc i [] s5 _ H5 (fun _ _ => False) I5 (fp_blk I5 n5) st5 stop) fun r s6 ⟨hr, I6⟩ => ?_
      subst hr
      have I7 : Inv X pins σ H5 s6 := I.call' (ch := fp) I6.os I6.base I6.hok I6.bare fun b hb => (let z := (f3 b hb).1; ⟨z.2.2.2.1, z.2.1, z.2.2.2.2.1, z.2.2.2.2.2⟩)
      obtain ⟨mm, hn, _⟩ := I6.loc
      obtain ⟨f0, f1, f2, f4, f5, f6⟩ := I.fpOk (H' := H5) (Nat.le_refl _) (show H5 s3.heap.objs.size = none from I6.free)
      exact ⟨mm, hn, fun h'' sb => ⟨.ref A, H5, I7.turned (t' := s6.toks) (fun b o hb e => (sb.2 b hb).trans e) f0 f1 f4 f5 f6, rfl, qq⟩⟩
    · refine thnF (dcx_turn hu hc (Q := fun s' => ∃ m, m < n ∧ ∃ i H', Inv (X.blk s3 H3 scope (compEnvC scope (cellsFrom (s3.heap.objs.size + 1) scope.names (cloFrom X.env.cells scope.names [])) s3.heap.objs.size X.env) fp) [] (wipe σ (own.map (·.2))) H' s' ∧ tn i s'.heap ∧ (∀ b ∈ fp, H' b = none) ∧ W i m H')
        (E := fun _ _ => False) T (hg s3 H3 _ _ fp) (ht s3 H3 _ _ fp) (hk s3 H3 _ _ fp) (hv s3 H3 _ _ fp) I5 st5 n5 go step fun s' H' a b c nx => ?_) fun r s6 ⟨v, hr, h6⟩ => ?_
      · obtain ⟨m', hm, w'⟩ := hNx H' nx
        exact ⟨m', hm, i + 1, H', a, b, c, w'⟩
      · subst hr
        refine thnF h6 fun _ s7 h7 => thnF h7 fun _ s8 h8 => thnF h8 fun okv s9 h9 => ?_
        cases okv with
        | false => exact h9
        | true => exact thnF h9 fun kv s10 h10 => thnF h10 fun vv s11 h11 => thnF h11 fun _ s12 h12 => h12
  exact codeAny_compStart_dict loop (T.self X.A 0 _ _ _ st4 loop)
/-- the run of the whole -/
theorem pe_dcx (hu : X.A.units + 64 < cLine) {kx vx tg iter : Expr} {ifs : List Expr} {scope : Scope} {own : List (Str × Nat)} {pos : Pos} {wi : TI} {g : TG} {tt : TT} {tk tv : TE} (hc : X.calm = true) (hN : X.N.Nodup) (hi : PI X tg iter wi) (ok : BlkOk X.N X.env.scope scope own)
    (hg : ∀ (s : Shared) (H : Hp) (C : Addr) (cl : List (Str × Addr)) (fp : List Addr), PG (X.blk s H scope (compEnvC scope cl C X.env) fp) tg g) (ht : ∀ (s : Shared) (H : Hp) (C : Addr) (cl : List (Str × Addr)) (fp : List Addr), PTs (X.blk s H scope (compEnvC scope cl C X.env) fp) ifs tt)
    (hk : ∀ (s : Shared) (H : Hp) (C : Addr) (cl : List (Str × Addr)) (fp : List Addr), PE (X.blk s H scope (compEnvC scope cl C X.env) fp) kx tk) (hv : ∀ (s : Shared) (H : Hp) (C : Addr) (cl : List (Str × Addr)) (fp : List Addr), PE (X.blk s H scope (compEnvC scope cl C X.env) fp) vx tv)
    (hs : ∀ x, foldedSetIterable iter X.env x = pure x) : PE X (.DictComp kx vx [⟨tg, iter, ifs, 0⟩] scope pos) (tDcx X.prog X.w wi g tt tk tv (own.map (·.2))) := by
  refine ⟨fun pins s σ H Q I h => ?_⟩
  rw [arm_eval_DictComp]
  have cells : ∀ y ∈ scope.names, y.2 = .free → ∃ c, X.env.cells.lookup y.1 = some c := fun y hy e => (ok.free y hy e).elim (fun k => I.ok.has _ (.inl k)) fun k => I.ok.has _ (.inr k)
  refine wpAny_comprehension_free (use := none) rfl hs (closure_ok cells) ok.kind (fun y hy e => by rw [ok.uniq y hy, e]) (thn (hi.run pins s σ H _ I h) fun xv s1 hx => thn hx fun itv s2 h2 => ?_)
  obtain ⟨it, fp, tn, J, H2, rfl, I2, T, st2, f2, q⟩ := h2
  refine wpAny_newObj_type (newEnv_comp ?_)
  have nA : H2 s2.heap.objs.size = none := I2.hok.fresh (Nat.le_refl _)
  obtain ⟨W, ⟨m0, w0⟩, turn⟩ := q s2.heap.objs.size nA (beq_eq_false_iff_ne.mpr (Ne.symm (Nat.ne_of_lt I2.big)))
  have I3 : Inv X pins σ (upd H2 s2.heap.objs.size (dxO s2.heap.objs.size #[] 0)) { s2 with heap := s2.heap.push { cls := .type "dict", data := .dict #[] } } :=
    I2.laid (t' := s2.toks) (fun b o e => Heap.get?_push_of_some _ e) (Nat.le_refl _) (dxO_ok ⟨_, Heap.get?_push_size _ rfl, ⟨rfl, rfl, rfl⟩, rfl⟩)
  have lt2 : ∀ b ∈ fp, b < s2.heap.objs.size := fun b hb => (let ⟨o, e, _⟩ := T.obj _ _ st2 b hb; Heap.lt_size e)
  have f3 : ∀ b ∈ fp, FpOk X pins (upd H2 s2.heap.objs.size (dxO s2.heap.objs.size #[] 0)) b ∧ b < (s2.heap.push { cls := .type "dict", data := .dict #[] }).objs.size := fun b hb =>
    ⟨⟨by rw [upd_ne (Nat.ne_of_lt (lt2 b hb))]; exact (f2 b hb).1, (f2 b hb).2⟩, by rw [Heap.size_push]; exact Nat.lt_succ_of_lt (lt2 b hb)⟩
  have st3 : tn 0 (s2.heap.push { cls := .type "dict", data := .dict #[] }) := T.keep _ _ _ st2 fun b _ o e => Heap.get?_push_of_some _ e
  exact dcx_block hu hc hN ok hg ht hk hv T I3 f3 st3 w0 turn
end
end Lk
end

section
set_option Elab.async false
set_option linter.all false
set_option maxRecDepth 100000
set_option maxHeartbeats 1000000
/-! Builtins by judgements. -/
namespace Lk
open PySem PySem.Spec L2
open PyProof.Rows hiding St
open Evl (Ex)
def blts : List Str := ["len", "isinstance", "all", "any", "range", "enumerate", "zip", "list", "tuple", "sorted", "set", "reversed", "sum", "min", "abs", "int", "bool", "str", "dict"]
def Free (mg : Str → Option Value) : Prop := ∀ x ∈ blts, mg x = none
section
variable {F : Fm} {X : Cx} {Γ : Ct} {p pos : Pos} {e : Expr} {es : List Expr} {Ps : List VP} {P : VP} {O : OP} {a b : Expr}
/-! len -/
theorem je_lenT {ds : List D} (hf : Free X.mg) (he : JE F X Γ e (vD (.tup ds))) (hg : Gl X "len" := by rfl) (hs : starEach [e] X.env = (false, eval e X.env) :: starEach [] X.env := by rfl) : JE F X Γ (.Call (.Name "len" p) [e] [] pos) (vN ds.length) :=
  je_callB call_len_seq (ja1 he hs) (fun σ H xs Q E h k => by
    cases h with | cons h1 h2 => cases h2; obtain ⟨q, vs, rfl, hq, hv⟩ := im_tup.mp h1; exact ⟨q, vs, rfl, .inr (SqT.of (hid_ex _ _ _ _ hq)), kt_here k (vD_num.mpr (by rw [hv.length]))⟩) (hf _ (by decide)) boot_len hg (he := hs)
theorem je_lenP (hf : Free X.mg) (he : JE F X Γ e (vT Ps)) (hg : Gl X "len" := by rfl) (hs : starEach [e] X.env = (false, eval e X.env) :: starEach [] X.env := by rfl) : JE F X Γ (.Call (.Name "len" p) [e] [] pos) (vN Ps.length) :=
  je_callB call_len_seq (ja1 he hs) (fun σ H xs Q E h k => by
    cases h with | cons h1 h2 => cases h2; obtain ⟨q, vs, rfl, hq, hv⟩ := h1; exact ⟨q, vs, rfl, .inr (SqT.of (hid_ex _ _ _ _ hq)), kt_here k (vD_num.mpr (by rw [hv.length]))⟩) (hf _ (by decide)) boot_len hg (he := hs)
theorem je_lenL {ps : List VP} (hf : Free X.mg) (rd : RdL F Γ P ps) (he : JE F X Γ e P) (hg : Gl X "len" := by rfl) (hs : starEach [e] X.env = (false, eval e X.env) :: starEach [] X.env := by rfl) : JE F X Γ (.Call (.Name "len" p) [e] [] pos) (vN ps.length) :=
  je_callB call_len_seq (ja1 he hs) (fun σ H xs Q E h k => by
    cases h with | cons h1 h2 => cases h2; obtain ⟨q, vs, rfl, hq, hv⟩ := rd σ H _ E h1; exact ⟨q, vs, rfl, .inl (SqL.of hq), kt_here k (vD_num.mpr (by rw [hv.length]))⟩) (hf _ (by decide)) boot_len hg (he := hs)
theorem je_lenX {ps : List (D × VP)} (hf : Free X.mg) (rd : RdX F X.prog X.w Γ P ps) (he : JE F X Γ e P) (hg : Gl X "len" := by rfl) (hs : starEach [e] X.env = (false, eval e X.env) :: starEach [] X.env := by rfl) : JE F X Γ (.Call (.Name "len" p) [e] [] pos) (vN ps.length) :=
  je_callB call_lenX (ja1 he hs) (fun σ H xs Q E h k => by
    cases h with | cons h1 h2 => cases h2; obtain ⟨kvs, hd, hp⟩ := rd σ H _ E h1; exact ⟨_, kvs, rfl, hd, kt_here k (vD_num.mpr (by rw [hp.length]))⟩) (hf _ (by decide)) boot_len hg (he := hs)
/-! isinstance -/
theorem je_ty {x : Str} {T : String} (hf : Free X.mg) (hx : x ∈ blts := by decide) (hv : bootBuiltins x = some (.type T) := by rfl) (hg : Gl X x := by rfl) (hn : x ≠ "__name__" := by decide) (hd : (x == ("__debug__" : Str)) = false := by decide) : JE F X Γ (.Name x p) (vE (.ty T)) :=
  je_of (pe_bltn (v := .ty T) hg (hf _ hx) hv rfl hn hd) fun σ H Q E k => kt_here k rfl
theorem je_isi {T t : String} {r : Bool} (hf : Free X.mg) (ha : JE F X Γ a P) (hb : JE F X Γ b (vE (.ty T))) (ht : ∀ K v, P.p v K → TyX X.K K v (.type t)) (hk : kitB t T = some r) (hg : Gl X "isinstance" := by rfl)
    (hs : starEach [a, b] X.env = (false, eval a X.env) :: starEach [b] X.env := by rfl) (hs2 : starEach [b] X.env = (false, eval b X.env) :: starEach [] X.env := by rfl) (hpl : (backTo pos (starEach [b] X.env)).any (·.1) = false := by rfl) : JE F X Γ (.Call (.Name "isinstance" p) [a, b] [] pos) (vB r) :=
  je_callB call_isi (ja_cons ha (ja1 hb hs2) hs) (fun σ H xs Q E h k => by
    cases h with | cons h1 h2 => cases h2 with | cons h2 h3 => cases h3; cases (show _ = V.ty T from h2); exact ⟨_, _, _, _, r, rfl, .ty T, ht H _ (P.mono (hid_ex _ _) h1), kit_ty hk, kt_here k rfl⟩) (hf _ (by decide)) boot_isinstance hg (he := hs) (hpl := hpl)
theorem ty_num {i : Int} {K : PySem.W.Frag} {H : Hp} {v : V} (h : (vZ i).p v H) : TyX K H v (.type "int") := by cases vD_num.mp h; exact .base (.int i)
theorem ty_text {i : Str} {K : PySem.W.Frag} {H : Hp} {v : V} (h : (vD (.text i)).p v H) : TyX K H v (.type "str") := by cases vD_text.mp h; exact .base (.str i)
theorem ty_tup {ds : List D} {K : PySem.W.Frag} {H : Hp} {v : V} (h : (vD (.tup ds)).p v H) : TyX K H v (.type "tuple") := by obtain ⟨q, vs, rfl, hq, _⟩ := im_tup.mp h; exact .base (.tup hq)
theorem je_isiInt {i : Int} (hf : Free X.mg) (ha : JE F X Γ a (vZ i)) {q : Pos} (hgi : Gl X "int" := by rfl) (hg : Gl X "isinstance" := by rfl) (hs : starEach [a, .Name "int" q] X.env = (false, eval a X.env) :: starEach [.Name "int" q] X.env := by rfl) : JE F X Γ (.Call (.Name "isinstance" p) [a, .Name "int" q] [] pos) (vB true) :=
  je_isi hf ha (je_ty hf (hg := hgi)) (fun K v h => ty_num h) (by decide +kernel) hg hs
theorem je_isiBool {i : Int} (hf : Free X.mg) (ha : JE F X Γ a (vZ i)) {q : Pos} (hgi : Gl X "bool" := by rfl) (hg : Gl X "isinstance" := by rfl) (hs : starEach [a, .Name "bool" q] X.env = (false, eval a X.env) :: starEach [.Name "bool" q] X.env := by rfl) : JE F X Γ (.Call (.Name "isinstance" p) [a, .Name "bool" q] [] pos) (vB false) :=
  je_isi hf ha (je_ty hf (hg := hgi)) (fun K v h => ty_num h) (by decide +kernel) hg hs
theorem je_isiStr {i : Str} (hf : Free X.mg) (ha : JE F X Γ a (vD (.text i))) {q : Pos} (hgi : Gl X "str" := by rfl) (hg : Gl X "isinstance" := by rfl) (hs : starEach [a, .Name "str" q] X.env = (false, eval a X.env) :: starEach [.Name "str" q] X.env := by rfl) : JE F X Γ (.Call (.Name "isinstance" p) [a, .Name "str" q] [] pos) (vB true) :=
  je_isi hf ha (je_ty hf (hg := hgi)) (fun K v h => ty_text h) (by decide +kernel) hg hs
theorem je_isiTup {ds : List D} (hf : Free X.mg) (ha : JE F X Γ a (vD (.tup ds))) {q : Pos} (hgi : Gl X "tuple" := by rfl) (hg : Gl X "isinstance" := by rfl) (hs : starEach [a, .Name "tuple" q] X.env = (false, eval a X.env) :: starEach [.Name "tuple" q] X.env := by rfl) : JE F X Γ (.Call (.Name "isinstance" p) [a, .Name "tuple" q] [] pos) (vB true) :=
  je_isi hf ha (je_ty hf (hg := hgi)) (fun K v h => ty_tup h) (by decide +kernel) hg hs
theorem je_isiDict {ps : List (D × VP)} (hf : Free X.mg) (rd : RdX F X.prog X.w Γ P ps) (ha : JE F X Γ a P) {q : Pos} (hgi : Gl X "dict" := by rfl) (hg : Gl X "isinstance" := by rfl)
    (hs : starEach [a, .Name "dict" q] X.env = (false, eval a X.env) :: starEach [.Name "dict" q] X.env := by rfl) (hpl : (backTo pos (starEach [.Name "dict" q] X.env)).any (·.1) = false := by rfl) : JE F X Γ (.Call (.Name "isinstance" p) [a, .Name "dict" q] [] pos) (vB true) :=
  je_callB call_isiX (ja_cons ha (ja1 (je_ty (T := "dict") hf (hg := hgi))) hs) (fun σ H xs Q E h k => by
    cases h with | cons h1 h2 => cases h2 with | cons h2 h3 => cases h3; cases (show _ = V.ty "dict" from h2); obtain ⟨kvs, hd, hp⟩ := rd σ H _ E h1; exact ⟨_, kvs, rfl, hd, kt_here k rfl⟩) (hf _ (by decide)) boot_isinstance hg (he := hs) (hpl := hpl)
/-! all, any, sum -/
theorem all_bls {bs : List Bool} {vs : List V} {K : Hp} (h : AllP (bs.map vB) vs K) : vs = bs.map V.bl := by
  induction bs generalizing vs with
  | nil => cases h; rfl
  | cons b l ih => cases h with | cons h1 h2 => rw [ih h2, show _ = V.bl b from h1]; rfl
theorem all_ints {ns : List Int} {vs : List V} {K : Hp} (h : AllP (ns.map vZ) vs K) : vs = ns.map V.int := by
  induction ns generalizing vs with
  | nil => cases h; rfl
  | cons b l ih => cases h with | cons h1 h2 => rw [ih h2, vD_num.mp h1]; rfl
theorem je_all {bs : List Bool} (hc : X.calm = true) (hf : Free X.mg) (he : JE F X Γ e (vL (bs.map vB))) (hg : Gl X "all" := by rfl) (hs : starEach [e] X.env = (false, eval e X.env) :: starEach [] X.env := by rfl) : JE F X Γ (.Call (.Name "all" p) [e] [] pos) (vB (bs.all id)) :=
  je_callB (cr_all hc) (ja1 he hs) (fun σ H xs Q E h k => by
    cases h with | cons h1 h2 => cases h2; obtain ⟨q, vs, rfl, hq, hv⟩ := h1; cases all_bls hv; exact ⟨q, bs, rfl, SqL.of (hid_ex _ _ _ _ hq), kt_here k rfl⟩) (hf _ (by decide)) boot_all hg (he := hs)
theorem je_any {bs : List Bool} (hc : X.calm = true) (hf : Free X.mg) (he : JE F X Γ e (vL (bs.map vB))) (hg : Gl X "any" := by rfl) (hs : starEach [e] X.env = (false, eval e X.env) :: starEach [] X.env := by rfl) : JE F X Γ (.Call (.Name "any" p) [e] [] pos) (vB (bs.any id)) :=
  je_callB (cr_any hc) (ja1 he hs) (fun σ H xs Q E h k => by
    cases h with | cons h1 h2 => cases h2; obtain ⟨q, vs, rfl, hq, hv⟩ := h1; cases all_bls hv; exact ⟨q, bs, rfl, SqL.of (hid_ex _ _ _ _ hq), kt_here k rfl⟩) (hf _ (by decide)) boot_any hg (he := hs)
theorem je_sumI {ns : List Int} (hc : X.calm = true) (hf : Free X.mg) (he : JE F X Γ e (vL (ns.map vZ))) (hg : Gl X "sum" := by rfl) (hs : starEach [e] X.env = (false, eval e X.env) :: starEach [] X.env := by rfl) : JE F X Γ (.Call (.Name "sum" p) [e] [] pos) (vZ ns.sum) :=
  je_callB (cr_sum hc) (ja1 he hs) (fun σ H xs Q E h k => by
    cases h with | cons h1 h2 => cases h2; obtain ⟨q, vs, rfl, hq, hv⟩ := h1; cases all_ints hv; exact ⟨q, ns, rfl, SqL.of (hid_ex _ _ _ _ hq), kt_here k (vD_num.mpr rfl)⟩) (hf _ (by decide)) boot_sum hg (he := hs)
theorem cast_sum : ∀ ns : List Nat, (ns.map fun (n : Nat) => (n : Int)).sum = ((ns.sum : Nat) : Int)
  | [] => rfl
  | n :: l => by rw [List.map_cons, List.sum_cons, List.sum_cons, cast_sum l, Int.natCast_add]
theorem je_sum {ns : List Nat} (hc : X.calm = true) (hf : Free X.mg) (he : JE F X Γ e (vL (ns.map vN))) (hg : Gl X "sum" := by rfl) (hs : starEach [e] X.env = (false, eval e X.env) :: starEach [] X.env := by rfl) : JE F X Γ (.Call (.Name "sum" p) [e] [] pos) (vN ns.sum) := by
  have := je_sumI (ns := ns.map fun (n : Nat) => (n : Int)) (p := p) (pos := pos) hc hf (by rw [List.map_map]; exact he) hg hs
  rw [cast_sum] at this
  exact this
/-! tuple, list of a list or tuple -/
theorem je_tupleL {ps : List VP} (hf : Free X.mg) (rd : RdL F Γ P ps) (he : JE F X Γ e P) (hg : Gl X "tuple" := by rfl) (hs : starEach [e] X.env = (false, eval e X.env) :: starEach [] X.env := by rfl) : JE F X Γ (.Call (.Name "tuple" p) [e] [] pos) (vT ps) :=
  je_callT call_tuple_of (ja1 he hs) (fun σ H xs Q E h k => by
    cases h with
    | cons h1 h2 =>
      cases h2
      obtain ⟨q, vs, rfl, hq, hv⟩ := rd σ H _ E h1
      exact ⟨q, vs, rfl, .inl ⟨SqL.of hq, fun l hl => k _ _ (E.ex (Ex.new hl)) ⟨l, vs, rfl, vw_upd E hl, hv.mono (E.ex (Ex.new hl)).ex⟩⟩⟩) (hf _ (by decide)) boot_tuple hg (he := hs)
theorem je_tupleD {ds : List D} (hf : Free X.mg) (he : JE F X Γ e (vL (ds.map vD))) (hg : Gl X "tuple" := by rfl) (hs : starEach [e] X.env = (false, eval e X.env) :: starEach [] X.env := by rfl) : JE F X Γ (.Call (.Name "tuple" p) [e] [] pos) (vD (.tup ds)) := je_Dt (je_tupleL hf (rdl _) he hg hs)
theorem je_tupleT {ds : List D} (hf : Free X.mg) (he : JE F X Γ e (vD (.tup ds))) (hg : Gl X "tuple" := by rfl) (hs : starEach [e] X.env = (false, eval e X.env) :: starEach [] X.env := by rfl) : JE F X Γ (.Call (.Name "tuple" p) [e] [] pos) (vD (.tup ds)) :=
  je_callT call_tuple_of (ja1 he hs) (fun σ H xs Q E h k => by
    cases h with
    | cons h1 h2 =>
      cases h2
      obtain ⟨q, vs, rfl, hq, hv⟩ := im_tup.mp h1
      exact ⟨q, vs, rfl, .inr ⟨SqT.of (hid_ex _ _ _ _ hq), kt_here k h1⟩⟩) (hf _ (by decide)) boot_tuple hg (he := hs)
theorem jn_listT (hf : Free X.mg) (he : JE F X Γ e (vT Ps)) (hg : Gl X "list" := by rfl) (hs : starEach [e] X.env = (false, eval e X.env) :: starEach [] X.env := by rfl) : JN F X Γ (.Call (.Name "list" p) [e] [] pos) (oL Ps) :=
  jn_callT call_list_of (ja1 he hs) (fun σ H xs Q E h k => by
    cases h with
    | cons h1 h2 =>
      cases h2
      obtain ⟨q, vs, rfl, hq, hv⟩ := h1
      exact ⟨q, vs, rfl, .inr (SqT.of (hid_ex _ _ _ _ hq)), fun l hl => k l _ (E.ex (Ex.new hl)) hl ⟨vs, upd_same, hv.mono (view_add hl (ex_upd hl))⟩⟩) (hf _ (by decide)) boot_list hg (he := hs)
/-! int, abs, min of two -/
theorem je_int1 {i : Int} (hf : Free X.mg) (he : JE F X Γ e (vZ i)) (hg : Gl X "int" := by rfl) (hs : starEach [e] X.env = (false, eval e X.env) :: starEach [] X.env := by rfl) : JE F X Γ (.Call (.Name "int" p) [e] [] pos) (vZ i) :=
  je_callT call_int1 (ja1 he hs) (fun σ H xs Q E h k => by
    cases h with | cons h1 h2 => cases h2; cases vD_num.mp h1; exact .inl ⟨i, rfl, kt_here k (vD_num.mpr rfl)⟩) (hf _ (by decide)) boot_int hg (he := hs)
theorem je_intB {b : Bool} (hf : Free X.mg) (he : JE F X Γ e (vB b)) (hg : Gl X "int" := by rfl) (hs : starEach [e] X.env = (false, eval e X.env) :: starEach [] X.env := by rfl) : JE F X Γ (.Call (.Name "int" p) [e] [] pos) (vZ (if b then 1 else 0)) :=
  je_callT call_int1 (ja1 he hs) (fun σ H xs Q E h k => by
    cases h with | cons h1 h2 => cases h2; cases (show _ = V.bl b from h1); exact .inr ⟨b, rfl, kt_here k (vD_num.mpr rfl)⟩) (hf _ (by decide)) boot_int hg (he := hs)
theorem je_abs {i : Int} (hf : Free X.mg) (he : JE F X Γ e (vZ i)) (hg : Gl X "abs" := by rfl) (hs : starEach [e] X.env = (false, eval e X.env) :: starEach [] X.env := by rfl) : JE F X Γ (.Call (.Name "abs" p) [e] [] pos) (vN i.natAbs) :=
  je_callB call_abs (ja1 he hs) (fun σ H xs Q E h k => by
    cases h with | cons h1 h2 => cases h2; cases vD_num.mp h1; exact ⟨i, rfl, kt_here k (vD_num.mpr (by congr 1; split <;> omega))⟩) (hf _ (by decide)) boot_abs hg (he := hs)
theorem je_min2 {i j : Int} (hc : X.calm = true) (hf : Free X.mg) (ha : JE F X Γ a (vZ i)) (hb : JE F X Γ b (vZ j)) (hg : Gl X "min" := by rfl) (hs : starEach [a, b] X.env = (false, eval a X.env) :: starEach [b] X.env := by rfl) (hs2 : starEach [b] X.env = (false, eval b X.env) :: starEach [] X.env := by rfl) (hpl : (backTo pos (starEach [b] X.env)).any (·.1) = false := by rfl) :
    JE F X Γ (.Call (.Name "min" p) [a, b] [] pos) (vZ (if j < i then j else i)) :=
  je_callB (call_min2 hc) (ja_cons ha (ja1 hb hs2) hs) (fun σ H xs Q E h k => by
    cases h with | cons h1 h2 => cases h2 with | cons h2 h3 => cases h3; cases vD_num.mp h1; cases vD_num.mp h2; exact ⟨i, j, rfl, kt_here k (vD_num.mpr rfl)⟩) (hf _ (by decide)) boot_min hg (he := hs) (hpl := hpl)
/-! slices, cats of tuples -/
def JO (F : Fm) (X : Cx) (Γ : Ct) (e : Option Expr) (o : Option Int) : Prop := ∀ (σ : L2.St) (H : Hp) (Q : Option Int → Hp → Prop), Env F Γ σ H → (∀ H', Step F.T (F.S Γ.own) H H' → Q o H') → oO X e σ H Q
theorem jo_none : JO F X Γ none none := fun σ H Q E k => oO_of po_none (k H (Step.refl _ _ _))
theorem jo_some {i : Int} (he : JE F X Γ e (vZ i)) : JO F X Γ (some e) (some i) := fun σ H Q E k => oO_of (po_some pE) (he σ H _ E fun v H1 s p => ⟨i, vD_num.mp p, k H1 s⟩)
def cutD {β : Type _} (xs : List β) (lo hi : Option Int) : List β := (xs.drop (HT.sIx xs.length 0 lo)).take (HT.sIx xs.length xs.length hi - HT.sIx xs.length 0 lo)
theorem cut_all {ps : List VP} {vs : List V} {K : Hp} (h : AllP ps vs K) (lo hi : Option Int) : AllP (cutD ps lo hi) (cutV vs lo hi) K := by
  unfold cutD cutV
  rw [h.length]
  exact (h.drop _).take _
variable {lo hi : Option Expr} {i j : Option Int} {p2 : Pos}
theorem cut_whole {β : Type _} {xs : List β} (h : HT.sIx xs.length 0 i = 0 ∧ HT.sIx xs.length xs.length j = xs.length) : cutD xs i j = xs := by
  unfold cutD
  rw [h.1, h.2, List.drop_zero, Nat.sub_zero, List.take_length]
theorem je_slP (ha : JE F X Γ a (vT Ps)) (h1 : JO F X Γ lo i) (h2 : JO F X Γ hi j) : JE F X Γ (.Subscript a (.Slice lo hi none p2) pos) (vT (cutD Ps i j)) :=
  je_of (pe_slice sl_tupA pE pO pO) fun σ H Q E k => ha σ H _ E fun v H1 s1 ⟨q, vs, e1, e2, e3⟩ => h1 σ H1 _ (E.go s1) fun H2 s2 => h2 σ H2 _ ((E.go s1).go s2) fun H3 s3 => by
    have E3 := ((E.go s1).go s2).go s3
    have sx := (s2.trans s3).ex
    have hq : F.vw Γ H3 q = some (.tup vs) := sx q _ e2
    have hv := e3.mono sx
    subst e1
    refine ⟨q, vs, rfl, SqT.of (hid_ex _ _ _ _ hq), fun w => k _ H3 ((s1.trans s2).trans s3) ⟨q, vs, rfl, hq, ?_⟩, fun w r hr => k _ _ (((s1.trans s2).trans s3).trans (step_new E3 hr)) ⟨r, _, rfl, vw_upd E3 hr, (cut_all hv i j).mono (step_new E3 hr).ex⟩⟩
    rw [cut_whole (by rw [← hv.length]; exact w)]
    exact hv
theorem cut_map {α β : Type _} (f : α → β) (l : List α) (i j : Option Int) : cutD (l.map f) i j = (cutD l i j).map f := by
  unfold cutD
  rw [List.length_map, ← List.map_drop, ← List.map_take]
theorem je_slT {ds : List D} (ha : JE F X Γ a (vD (.tup ds))) (h1 : JO F X Γ lo i) (h2 : JO F X Γ hi j) : JE F X Γ (.Subscript a (.Slice lo hi none p2) pos) (vD (.tup (cutD ds i j))) :=
  je_Dt (je_imp (je_slP (je_tD ha) h1 h2) fun v H h => by rw [cut_map] at h; exact h)
theorem jn_slL {ps : List VP} (rd : RdL F Γ P ps) (ha : JE F X Γ a P) (h1 : JO F X Γ lo i) (h2 : JO F X Γ hi j) : JN F X Γ (.Subscript a (.Slice lo hi none p2) pos) (oL (cutD ps i j)) :=
  jn_of (pe_slice sl_list pE pO pO) fun σ H Q E k => ha σ H _ E fun v H1 s1 hp => h1 σ H1 _ (E.go s1) fun H2 s2 => h2 σ H2 _ ((E.go s1).go s2) fun H3 s3 => by
    have E3 := ((E.go s1).go s2).go s3
    obtain ⟨q, vs, e1, e2, e3⟩ := rd σ H3 v E3 (P.mono (s2.trans s3).ex hp)
    exact ⟨q, vs, e1, SqL.of e2, fun r hr => k r _ (((s1.trans s2).trans s3).trans (step_new E3 hr)) (none_back E ((s1.trans s2).trans s3) hr) ⟨_, upd_same, (cut_all e3 i j).mono (view_add hr (ex_upd hr))⟩⟩
theorem je_catP {Qs : List VP} (ha : JE F X Γ a (vT Ps)) (hb : JE F X Γ b (vT Qs)) (hl : Ps.length + Qs.length ≤ sizeLine) : JE F X Γ (.BinOp a .Add b pos) (vT (Ps ++ Qs)) :=
  je_bin op_catA ha hb fun σ H x y Q E ⟨q, vs, e1, e2, e3⟩ ⟨r, ws, f1, f2, f3⟩ k => by
    refine ⟨q, r, vs, ws, e1, f1, SqT.of (hid_ex _ _ _ _ e2), SqT.of (hid_ex _ _ _ _ f2), by rw [e3.length, f3.length]; exact hl, fun z => ?_, fun z z2 => ?_, fun z z2 t ht => ?_⟩
    · subst z
      cases e3
      exact kt_here k ⟨r, ws, rfl, f2, f3⟩
    · subst z2
      cases f3
      rw [List.append_nil] at k
      exact kt_here k ⟨q, vs, rfl, e2, e3⟩
    · exact k _ _ (step_new E ht) ⟨t, _, rfl, vw_upd E ht, (e3.append f3).mono (step_new E ht).ex⟩
theorem je_catD {ds es : List D} (ha : JE F X Γ a (vD (.tup ds))) (hb : JE F X Γ b (vD (.tup es))) (hl : ds.length + es.length ≤ sizeLine) : JE F X Γ (.BinOp a .Add b pos) (vD (.tup (ds ++ es))) :=
  je_Dt (je_imp (je_catP (je_tD ha) (je_tD hb) (by rw [List.length_map, List.length_map]; exact hl)) fun v H h => by rw [List.map_append]; exact h)
end
/-! elements of comprehensions by the target -/
section
variable {F : Fm} {X : Cx} {Γ : Ct} {scope : Scope} {ifs : List Expr} {elt : Expr} {vs : List Nat} {P P1 P2 R : VP} {b : Bool} {p p1 p2 : Pos}
theorem jelt1 (n : Nat) {x : Str} (hN : X.N.Nodup) (h : ∀ (s : Shared) (H0 : Hp) (C : Addr) (cl : List (Str × Addr)) (fp : List Addr), JTs F (cmpX X scope s H0 C cl fp) (Γ.put n P) ifs (· = b) ∧ (b = true → JE F (cmpX X scope s H0 C cl fp) (Γ.put n P) elt R))
    (hj : n ∈ vs := by decide) (hi : X.N[n]? = some x := by rfl) (hx : ∀ (s : Shared) (H0 : Hp) (C : Addr) (cl : List (Str × Addr)) (fp : List Addr), Loc (cmpX X scope s H0 C cl fp).env.scope x := by intros; first | exact .inl rfl | exact .inr rfl)
    (hf : ∀ (s : Shared) (H0 : Hp) (C : Addr) (cl : List (Str × Addr)) (fp : List Addr), (cmpX X scope s H0 C cl fp).fn x = true ∨ (cmpX X scope s H0 C cl fp).env.scope.names.lookup x = some .local := by intros; first | exact .inl rfl | exact .inr rfl) :
    JElt F X scope Γ (.Name x p) ifs elt vs P b R :=
  ⟨Γ.put n P, [n], fun i h => by rw [List.mem_singleton.mp h]; exact hj, rfl, fun s H0 C cl fp => ⟨jg_name (X := cmpX X scope s H0 C cl fp) n hN hi (hx s H0 C cl fp) (hf s H0 C cl fp), h s H0 C cl fp⟩⟩
theorem jelt2 (n1 n2 : Nat) {x1 x2 : Str} {k : Nat} (hc : X.calm = true) (hN : X.N.Nodup) (h : ∀ (s : Shared) (H0 : Hp) (C : Addr) (cl : List (Str × Addr)) (fp : List Addr), JTs F (cmpX X scope s H0 C cl fp) ((Γ.put n1 P1).put n2 P2) ifs (· = b) ∧ (b = true → JE F (cmpX X scope s H0 C cl fp) ((Γ.put n1 P1).put n2 P2) elt R))
    (hj1 : n1 ∈ vs := by decide) (hj2 : n2 ∈ vs := by decide) (hi1 : X.N[n1]? = some x1 := by rfl) (hi2 : X.N[n2]? = some x2 := by rfl)
    (hx1 : ∀ (s : Shared) (H0 : Hp) (C : Addr) (cl : List (Str × Addr)) (fp : List Addr), Loc (cmpX X scope s H0 C cl fp).env.scope x1 := by intros; first | exact .inl rfl | exact .inr rfl)
    (hf1 : ∀ (s : Shared) (H0 : Hp) (C : Addr) (cl : List (Str × Addr)) (fp : List Addr), (cmpX X scope s H0 C cl fp).fn x1 = true ∨ (cmpX X scope s H0 C cl fp).env.scope.names.lookup x1 = some .local := by intros; first | exact .inl rfl | exact .inr rfl)
    (hx2 : ∀ (s : Shared) (H0 : Hp) (C : Addr) (cl : List (Str × Addr)) (fp : List Addr), Loc (cmpX X scope s H0 C cl fp).env.scope x2 := by intros; first | exact .inl rfl | exact .inr rfl)
    (hf2 : ∀ (s : Shared) (H0 : Hp) (C : Addr) (cl : List (Str × Addr)) (fp : List Addr), (cmpX X scope s H0 C cl fp).fn x2 = true ∨ (cmpX X scope s H0 C cl fp).env.scope.names.lookup x2 = some .local := by intros; first | exact .inl rfl | exact .inr rfl)
    (ha1 : ∀ (s : Shared) (H0 : Hp) (C : Addr) (cl : List (Str × Addr)) (fp : List Addr), (assignEach [.Name x1 p1, .Name x2 p2] (cmpX X scope s H0 C cl fp).env).map (·.2) = [assign (.Name x1 p1) (cmpX X scope s H0 C cl fp).env, assign (.Name x2 p2) (cmpX X scope s H0 C cl fp).env] := by intros; rfl)
    (ha2 : ∀ (s : Shared) (H0 : Hp) (C : Addr) (cl : List (Str × Addr)) (fp : List Addr), (assignEach [.Name x2 p2] (cmpX X scope s H0 C cl fp).env).map (·.2) = [assign (.Name x2 p2) (cmpX X scope s H0 C cl fp).env] := by intros; rfl)
    (ha3 : ∀ (s : Shared) (H0 : Hp) (C : Addr) (cl : List (Str × Addr)) (fp : List Addr), (assignEach [.Name x1 p1, .Name x2 p2] (cmpX X scope s H0 C cl fp).env).findIdx? (·.1) = none := by intros; rfl)
    (ha4 : ∀ (s : Shared) (H0 : Hp) (C : Addr) (cl : List (Str × Addr)) (fp : List Addr), (assignEach [.Name x1 p1, .Name x2 p2] (cmpX X scope s H0 C cl fp).env).length = 2 := by intros; rfl) :
    JElt F X scope Γ (.Tuple [.Name x1 p1, .Name x2 p2] k p) ifs elt vs (vT [P1, P2]) b R :=
  ⟨(Γ.put n1 P1).put n2 P2, [n1, n2], fun i h => by
    rcases List.mem_cons.mp h with h | h
    · rw [h]; exact hj1
    · rw [List.mem_singleton.mp h]; exact hj2, rfl, fun s H0 C cl fp => ⟨jg_tup (X := cmpX X scope s H0 C cl fp) hc (jgs_cons (X := cmpX X scope s H0 C cl fp) (jg_name (X := cmpX X scope s H0 C cl fp) n1 hN hi1 (hx1 s H0 C cl fp) (hf1 s H0 C cl fp)) (jgs_cons (X := cmpX X scope s H0 C cl fp) (jg_name (X := cmpX X scope s H0 C cl fp) n2 hN hi2 (hx2 s H0 C cl fp) (hf2 s H0 C cl fp)) jgs_nil rfl ((ha2 s H0 C cl fp).trans rfl)) rfl ((ha1 s H0 C cl fp).trans (by rw [ha2 s H0 C cl fp]))) (ha4 s H0 C cl fp) (ha3 s H0 C cl fp), h s H0 C cl fp⟩⟩
theorem jelt_imp {tg : Expr} {P' : VP} (h : JElt F X scope Γ tg ifs elt vs P b R) (hi : ∀ v K, P'.p v K → P.p v K) : JElt F X scope Γ tg ifs elt vs P' b R := by
  obtain ⟨Γ2, js, a, b, c⟩ := h
  exact ⟨Γ2, js, a, b, fun s H0 C cl fp => ⟨jg_imp (c s H0 C cl fp).1 hi, (c s H0 C cl fp).2⟩⟩
end
end Lk
end

section
set_option Elab.async false
set_option linter.all false
set_option maxRecDepth 100000
/-! The defs of the row by place, the names of their slots. -/
namespace Lk
open PySem PySem.Spec L2
open PyProof.Rows hiding St
def topS (i : Nat) : Stmt := PySem.Challenge.pw_lookdown_k18_whole_alone_prices_and_own.main.body.getD i (.Pass ⟨0, 0, 0, 0⟩)
abbrev s_is_integer : Stmt := topS 10
abbrev n_is_integer : List Str := ["thing"]
theorem sc_is_integer : FnScope n_is_integer ["thing"] (defScope s_is_integer) := ⟨rfl, rfl, rfl, by decide +kernel, rfl, by decide +kernel, by decide +kernel⟩
abbrev s_is_within : Stmt := topS 11
abbrev n_is_within : List Str := ["thing", "least", "most"]
theorem sc_is_within : FnScope n_is_within ["thing", "least", "most"] (defScope s_is_within) := ⟨rfl, rfl, rfl, by decide +kernel, rfl, by decide +kernel, by decide +kernel⟩
abbrev s_is_tuple_of : Stmt := topS 12
abbrev n_is_tuple_of : List Str := ["thing", "size"]
theorem sc_is_tuple_of : FnScope n_is_tuple_of ["thing", "size"] (defScope s_is_tuple_of) := ⟨rfl, rfl, rfl, by decide +kernel, rfl, by decide +kernel, by decide +kernel⟩
abbrev s_are_within : Stmt := topS 13
abbrev n_are_within : List Str := ["thing", "least", "most", "item"]
theorem sc_are_within : FnScope n_are_within ["thing", "least", "most"] (defScope s_are_within) := ⟨rfl, rfl, rfl, by decide +kernel, rfl, by decide +kernel, by decide +kernel⟩
abbrev s_is_rule : Stmt := topS 21
abbrev n_is_rule : List Str := ["thing", "arities", "kinds"]
theorem sc_is_rule : FnScope n_is_rule ["thing", "arities", "kinds"] (defScope s_is_rule) := ⟨rfl, rfl, rfl, by decide +kernel, rfl, by decide +kernel, by decide +kernel⟩
abbrev s_is_move : Stmt := topS 22
abbrev n_is_move : List Str := ["thing", "kinds"]
theorem sc_is_move : FnScope n_is_move ["thing", "kinds"] (defScope s_is_move) := ⟨rfl, rfl, rfl, by decide +kernel, rfl, by decide +kernel, by decide +kernel⟩
abbrev s_is_long : Stmt := topS 23
abbrev n_is_long : List Str := ["thing", "most"]
theorem sc_is_long : FnScope n_is_long ["thing", "most"] (defScope s_is_long) := ⟨rfl, rfl, rfl, by decide +kernel, rfl, by decide +kernel, by decide +kernel⟩
abbrev s_check_rules : Stmt := topS 24
abbrev n_check_rules : List Str := ["rules", "arities", "kinds", "known", "number", "rule"]
theorem sc_check_rules : FnScope n_check_rules ["rules", "arities", "kinds"] (defScope s_check_rules) := ⟨rfl, rfl, rfl, by decide +kernel, rfl, by decide +kernel, by decide +kernel⟩
abbrev s_check_moves : Stmt := topS 25
abbrev n_check_moves : List Str := ["moves", "kinds", "known", "number", "move"]
theorem sc_check_moves : FnScope n_check_moves ["moves", "kinds"] (defScope s_check_moves) := ⟨rfl, rfl, rfl, by decide +kernel, rfl, by decide +kernel, by decide +kernel⟩
abbrev s_parts_of : Stmt := topS 26
abbrev n_parts_of : List Str := ["book"]
theorem sc_parts_of : FnScope n_parts_of ["book"] (defScope s_parts_of) := ⟨rfl, rfl, rfl, by decide +kernel, rfl, by decide +kernel, by decide +kernel⟩
abbrev s_Book_init : Stmt := inClass (topS 27) 0
abbrev n_Book_init : List Str := ["self", "arities", "kinds", "rules", "moves"]
theorem sc_Book_init : FnScope n_Book_init ["self", "arities", "kinds", "rules", "moves"] (defScope s_Book_init) := ⟨rfl, rfl, rfl, by decide +kernel, rfl, by decide +kernel, by decide +kernel⟩
abbrev s_price_of : Stmt := topS 28
abbrev n_price_of : List Str := ["book", "way"]
theorem sc_price_of : FnScope n_price_of ["book", "way"] (defScope s_price_of) := ⟨rfl, rfl, rfl, by decide +kernel, rfl, by decide +kernel, by decide +kernel⟩
abbrev s_is_value : Stmt := topS 34
abbrev n_is_value : List Str := ["thing", "number", "part"]
theorem sc_is_value : FnScope n_is_value ["thing", "number"] (defScope s_is_value) := ⟨rfl, rfl, rfl, by decide +kernel, rfl, by decide +kernel, by decide +kernel⟩
abbrev s_Web_init : Stmt := inClass (topS 35) 0
abbrev n_Web_init : List Str := ["self", "values", "number", "value"]
theorem sc_Web_init : FnScope n_Web_init ["self", "values"] (defScope s_Web_init) := ⟨rfl, rfl, rfl, by decide +kernel, rfl, by decide +kernel, by decide +kernel⟩
abbrev s_RawWeb_init : Stmt := inClass (topS 36) 0
abbrev n_RawWeb_init : List Str := ["self", "values"]
theorem sc_RawWeb_init : FnScope n_RawWeb_init ["self", "values"] (defScope s_RawWeb_init) := ⟨rfl, rfl, rfl, by decide +kernel, rfl, by decide +kernel, by decide +kernel⟩
abbrev s_is_of : Stmt := topS 37
abbrev n_is_of : List Str := ["book", "value"]
theorem sc_is_of : FnScope n_is_of ["book", "value"] (defScope s_is_of) := ⟨rfl, rfl, rfl, by decide +kernel, rfl, by decide +kernel, by decide +kernel⟩
abbrev s_fits : Stmt := topS 38
abbrev n_fits : List Str := ["book", "web", "value"]
theorem sc_fits : FnScope n_fits ["book", "web"] (defScope s_fits) := ⟨rfl, rfl, rfl, by decide +kernel, rfl, by decide +kernel, by decide +kernel⟩
abbrev s_check_web : Stmt := topS 39
abbrev n_check_web : List Str := ["book", "web"]
theorem sc_check_web : FnScope n_check_web ["book", "web"] (defScope s_check_web) := ⟨rfl, rfl, rfl, by decide +kernel, rfl, by decide +kernel, by decide +kernel⟩
abbrev s_check_value : Stmt := topS 40
abbrev n_check_value : List Str := ["web", "thing"]
theorem sc_check_value : FnScope n_check_value ["web", "thing"] (defScope s_check_value) := ⟨rfl, rfl, rfl, by decide +kernel, rfl, by decide +kernel, by decide +kernel⟩
abbrev s_raw_below : Stmt := topS 41
abbrev n_raw_below : List Str := ["web", "value", "inner", "number", "part"]
theorem sc_raw_below : FnScope n_raw_below ["web", "value"] (defScope s_raw_below) := ⟨rfl, rfl, rfl, by decide +kernel, rfl, by decide +kernel, by decide +kernel⟩
abbrev s_below : Stmt := topS 42
abbrev n_below : List Str := ["web", "value"]
theorem sc_below : FnScope n_below ["web", "value"] (defScope s_below) := ⟨rfl, rfl, rfl, by decide +kernel, rfl, by decide +kernel, by decide +kernel⟩
abbrev s_raw_part_web : Stmt := topS 43
abbrev n_raw_part_web : List Str := ["web", "value", "some", "places", "found", "number", "op", "parts", "place", "part"]
theorem sc_raw_part_web : FnScope n_raw_part_web ["web", "value"] (defScope s_raw_part_web) := ⟨rfl, rfl, rfl, by decide +kernel, rfl, by decide +kernel, by decide +kernel⟩
abbrev s_part_web : Stmt := topS 44
abbrev n_part_web : List Str := ["web", "value"]
theorem sc_part_web : FnScope n_part_web ["web", "value"] (defScope s_part_web) := ⟨rfl, rfl, rfl, by decide +kernel, rfl, by decide +kernel, by decide +kernel⟩
abbrev s_tree_sizes : Stmt := topS 45
abbrev n_tree_sizes : List Str := ["web", "found", "op", "parts", "part"]
theorem sc_tree_sizes : FnScope n_tree_sizes ["web"] (defScope s_tree_sizes) := ⟨rfl, rfl, rfl, by decide +kernel, rfl, by decide +kernel, by decide +kernel⟩
abbrev s_unfolded : Stmt := topS 46
abbrev n_unfolded : List Str := ["web", "value", "found", "made", "waiting", "number", "is_ready", "op", "parts", "places", "part"]
theorem sc_unfolded : FnScope n_unfolded ["web", "value"] (defScope s_unfolded) := ⟨rfl, rfl, rfl, by decide +kernel, rfl, by decide +kernel, by decide +kernel⟩
abbrev s_folded : Stmt := topS 47
abbrev n_folded : List Str := ["web", "known", "places", "op", "parts", "value", "part"]
theorem sc_folded : FnScope n_folded ["web"] (defScope s_folded) := ⟨rfl, rfl, rfl, by decide +kernel, rfl, by decide +kernel, by decide +kernel⟩
abbrev s_ways_of_op : Stmt := topS 49
abbrev n_ways_of_op : List Str := ["book", "op", "kind", "found", "number", "rule", "move"]
theorem sc_ways_of_op : FnScope n_ways_of_op ["book", "op", "kind"] (defScope s_ways_of_op) := ⟨rfl, rfl, rfl, by decide +kernel, rfl, by decide +kernel, by decide +kernel⟩
abbrev s_raw_ways : Stmt := topS 50
abbrev n_raw_ways : List Str := ["book", "web", "thing"]
theorem sc_raw_ways : FnScope n_raw_ways ["book", "web", "thing"] (defScope s_raw_ways) := ⟨rfl, rfl, rfl, by decide +kernel, rfl, by decide +kernel, by decide +kernel⟩
abbrev s_needs_in_order : Stmt := topS 51
abbrev n_needs_in_order : List Str := ["book", "web", "thing", "way"]
theorem sc_needs_in_order : FnScope n_needs_in_order ["book", "web", "thing", "way"] (defScope s_needs_in_order) := ⟨rfl, rfl, rfl, by decide +kernel, rfl, by decide +kernel, by decide +kernel⟩
abbrev s_raw_needs : Stmt := topS 52
abbrev n_raw_needs : List Str := ["book", "web", "thing", "way"]
theorem sc_raw_needs : FnScope n_raw_needs ["book", "web", "thing", "way"] (defScope s_raw_needs) := ⟨rfl, rfl, rfl, by decide +kernel, rfl, by decide +kernel, by decide +kernel⟩
abbrev s_is_giving : Stmt := topS 53
abbrev n_is_giving : List Str := ["book", "web", "thing", "way"]
theorem sc_is_giving : FnScope n_is_giving ["book", "web", "thing", "way"] (defScope s_is_giving) := ⟨rfl, rfl, rfl, by decide +kernel, rfl, by decide +kernel, by decide +kernel⟩
abbrev s_usable_ways : Stmt := topS 54
abbrev n_usable_ways : List Str := ["book", "web", "found", "value", "turn", "kind", "thing", "some", "way"]
theorem sc_usable_ways : FnScope n_usable_ways ["book", "web"] (defScope s_usable_ways) := ⟨rfl, rfl, rfl, by decide +kernel, rfl, by decide +kernel, by decide +kernel⟩
abbrev s_is_usable : Stmt := topS 55
abbrev n_is_usable : List Str := ["book", "web", "thing", "way", "found", "need"]
theorem sc_is_usable : FnScope n_is_usable ["book", "web", "thing", "way", "found"] (defScope s_is_usable) := ⟨rfl, rfl, rfl, by decide +kernel, rfl, by decide +kernel, by decide +kernel⟩
abbrev s_raw_makeable : Stmt := topS 56
abbrev n_raw_makeable : List Str := ["book", "web"]
theorem sc_raw_makeable : FnScope n_raw_makeable ["book", "web"] (defScope s_raw_makeable) := ⟨rfl, rfl, rfl, by decide +kernel, rfl, by decide +kernel, by decide +kernel⟩
abbrev s_total : Stmt := topS 58
abbrev n_total : List Str := ["book", "web", "thing", "way", "prices", "due", "need"]
theorem sc_total : FnScope n_total ["book", "web", "thing", "way", "prices"] (defScope s_total) := ⟨rfl, rfl, rfl, by decide +kernel, rfl, by decide +kernel, by decide +kernel⟩
abbrev s_better : Stmt := topS 59
abbrev n_better : List Str := ["one", "other"]
theorem sc_better : FnScope n_better ["one", "other"] (defScope s_better) := ⟨rfl, rfl, rfl, by decide +kernel, rfl, by decide +kernel, by decide +kernel⟩
abbrev s_raw_alone : Stmt := topS 60
abbrev n_raw_alone : List Str := ["book", "web", "usable", "prices", "value", "things", "turn", "thing", "way", "here", "found", "some", "kind"]
theorem sc_raw_alone : FnScope n_raw_alone ["book", "web"] (defScope s_raw_alone) := ⟨rfl, rfl, rfl, by decide +kernel, rfl, by decide +kernel, by decide +kernel⟩
abbrev s_alone : Stmt := topS 61
abbrev n_alone : List Str := ["book", "web"]
theorem sc_alone : FnScope n_alone ["book", "web"] (defScope s_alone) := ⟨rfl, rfl, rfl, by decide +kernel, rfl, by decide +kernel, by decide +kernel⟩
abbrev s_own : Stmt := topS 62
abbrev n_own : List Str := ["book", "web"]
theorem sc_own : FnScope n_own ["book", "web"] (defScope s_own) := ⟨rfl, rfl, rfl, by decide +kernel, rfl, by decide +kernel, by decide +kernel⟩
abbrev s_is_lot_of : Stmt := topS 64
abbrev n_is_lot_of : List Str := ["thing", "some", "item", "at"]
theorem sc_is_lot_of : FnScope n_is_lot_of ["thing", "some"] (defScope s_is_lot_of) := ⟨rfl, rfl, rfl, by decide +kernel, rfl, by decide +kernel, by decide +kernel⟩
abbrev s_is_pair : Stmt := topS 65
abbrev n_is_pair : List Str := ["thing", "item"]
theorem sc_is_pair : FnScope n_is_pair ["thing"] (defScope s_is_pair) := ⟨rfl, rfl, rfl, by decide +kernel, rfl, by decide +kernel, by decide +kernel⟩
abbrev s_check_wishes : Stmt := topS 66
abbrev n_check_wishes : List Str := ["book", "web", "thing", "item"]
theorem sc_check_wishes : FnScope n_check_wishes ["book", "web", "thing"] (defScope s_check_wishes) := ⟨rfl, rfl, rfl, by decide +kernel, rfl, by decide +kernel, by decide +kernel⟩
abbrev s_source_of : Stmt := topS 68
abbrev n_source_of : List Str := ["book", "thing", "way"]
theorem sc_source_of : FnScope n_source_of ["book", "thing", "way"] (defScope s_source_of) := ⟨rfl, rfl, rfl, by decide +kernel, rfl, by decide +kernel, by decide +kernel⟩
abbrev s_comes_back : Stmt := topS 69
abbrev n_comes_back : List Str := ["book", "choice", "thing", "here", "turn"]
theorem sc_comes_back : FnScope n_comes_back ["book", "choice", "thing"] (defScope s_comes_back) := ⟨rfl, rfl, rfl, by decide +kernel, rfl, by decide +kernel, by decide +kernel⟩
abbrev s_is_choice_of : Stmt := topS 70
abbrev n_is_choice_of : List Str := ["book", "web", "thing", "usable", "item"]
theorem sc_is_choice_of : FnScope n_is_choice_of ["book", "web", "thing"] (defScope s_is_choice_of) := ⟨rfl, rfl, rfl, by decide +kernel, rfl, by decide +kernel, by decide +kernel⟩
abbrev s_is_choice : Stmt := topS 71
abbrev n_is_choice : List Str := ["book", "web", "thing"]
theorem sc_is_choice : FnScope n_is_choice ["book", "web", "thing"] (defScope s_is_choice) := ⟨rfl, rfl, rfl, by decide +kernel, rfl, by decide +kernel, by decide +kernel⟩
abbrev s_check_choice : Stmt := topS 72
abbrev n_check_choice : List Str := ["book", "web", "thing"]
theorem sc_check_choice : FnScope n_check_choice ["book", "web", "thing"] (defScope s_check_choice) := ⟨rfl, rfl, rfl, by decide +kernel, rfl, by decide +kernel, by decide +kernel⟩
abbrev s_raw_needed : Stmt := topS 73
abbrev n_raw_needed : List Str := ["book", "web", "choice", "things", "found", "waiting", "here"]
theorem sc_raw_needed : FnScope n_raw_needed ["book", "web", "choice", "things"] (defScope s_raw_needed) := ⟨rfl, rfl, rfl, by decide +kernel, rfl, by decide +kernel, by decide +kernel⟩
abbrev s_raw_cost : Stmt := topS 74
abbrev n_raw_cost : List Str := ["book", "choice", "things", "thing"]
theorem sc_raw_cost : FnScope n_raw_cost ["book", "choice", "things"] (defScope s_raw_cost) := ⟨rfl, rfl, rfl, by decide +kernel, rfl, by decide +kernel, by decide +kernel⟩
abbrev s_cost : Stmt := topS 75
abbrev n_cost : List Str := ["book", "web", "choice", "wishes"]
theorem sc_cost : FnScope n_cost ["book", "web", "choice", "wishes"] (defScope s_cost) := ⟨rfl, rfl, rfl, by decide +kernel, rfl, by decide +kernel, by decide +kernel⟩
abbrev s__law_bag : Stmt := topS 77
abbrev n__law_bag : List Str := ["_law_script", "_law_seed", "_law_cell", "_law_great", "_law_always"]
theorem sc__law_bag : FnScope n__law_bag ["_law_script"] (defScope s__law_bag) := ⟨rfl, rfl, rfl, by decide +kernel, rfl, by decide +kernel, by decide +kernel⟩
abbrev s__law_pick : Stmt := topS 78
abbrev n__law_pick : List Str := ["_law_bag_here", "_law_many", "_law_great", "_law_digit", "_law_number"]
theorem sc__law_pick : FnScope n__law_pick ["_law_bag_here", "_law_many"] (defScope s__law_pick) := ⟨rfl, rfl, rfl, by decide +kernel, rfl, by decide +kernel, by decide +kernel⟩
abbrev s__law_some : Stmt := topS 79
abbrev n__law_some : List Str := ["_law_bag_here", "_law_things"]
theorem sc__law_some : FnScope n__law_some ["_law_bag_here", "_law_things"] (defScope s__law_some) := ⟨rfl, rfl, rfl, by decide +kernel, rfl, by decide +kernel, by decide +kernel⟩
abbrev s__law_book : Stmt := topS 80
abbrev n__law_book : List Str := ["_law_bag_here", "_law_ops", "_law_kinds", "_law_most", "_law_arities", "_law_rules", "_law_op", "_law_turn", "_law_sources", "_law_moves", "_law_one", "_law_other", "_law_rows", "_law_part", "_law_key"]
theorem sc__law_book : FnScope n__law_book ["_law_bag_here", "_law_ops", "_law_kinds", "_law_most"] (defScope s__law_book) := ⟨rfl, rfl, rfl, by decide +kernel, rfl, by decide +kernel, by decide +kernel⟩
abbrev s__law_values : Stmt := topS 81
abbrev n__law_values : List Str := ["_law_bag_here", "_law_arities", "_law_many", "_law_found", "_law_number", "_law_op", "_law_part"]
theorem sc__law_values : FnScope n__law_values ["_law_bag_here", "_law_arities", "_law_many"] (defScope s__law_values) := ⟨rfl, rfl, rfl, by decide +kernel, rfl, by decide +kernel, by decide +kernel⟩
abbrev s__law_price : Stmt := topS 82
abbrev n__law_price : List Str := ["_law_parts", "_law_way"]
theorem sc__law_price : FnScope n__law_price ["_law_parts", "_law_way"] (defScope s__law_price) := ⟨rfl, rfl, rfl, by decide +kernel, rfl, by decide +kernel, by decide +kernel⟩
abbrev s__law_needs : Stmt := topS 83
abbrev n__law_needs : List Str := ["_law_parts", "_law_values_here", "_law_thing", "_law_way"]
theorem sc__law_needs : FnScope n__law_needs ["_law_parts", "_law_values_here", "_law_thing", "_law_way"] (defScope s__law_needs) := ⟨rfl, rfl, rfl, by decide +kernel, rfl, by decide +kernel, by decide +kernel⟩
abbrev s__law_usable : Stmt := topS 84
abbrev n__law_usable : List Str := ["_law_parts", "_law_values_here", "_law_giving", "_law_value", "_law_kind", "_law_some_here", "_law_at", "_law_rule", "_law_made", "_law_grown", "_law_thing", "_law_way", "_law_found", "_law_need"]
theorem sc__law_usable : FnScope n__law_usable ["_law_parts", "_law_values_here"] (defScope s__law_usable) := ⟨rfl, rfl, rfl, by decide +kernel, rfl, by decide +kernel, by decide +kernel⟩
abbrev s__law_alone : Stmt := topS 85
abbrev n__law_alone : List Str := ["_law_parts", "_law_values_here", "_law_usable_here", "_law_prices", "_law_grown", "_law_thing", "_law_way", "_law_needs_here", "_law_paid", "_law_ways", "_law_rows", "_law_whole", "_law_need"]
theorem sc__law_alone : FnScope n__law_alone ["_law_parts", "_law_values_here", "_law_usable_here"] (defScope s__law_alone) := ⟨rfl, rfl, rfl, by decide +kernel, rfl, by decide +kernel, by decide +kernel⟩
abbrev s__law_trees : Stmt := topS 86
abbrev n__law_trees : List Str := ["_law_values_here", "_law_found", "_law_op", "_law_parts", "_law_part"]
theorem sc__law_trees : FnScope n__law_trees ["_law_values_here"] (defScope s__law_trees) := ⟨rfl, rfl, rfl, by decide +kernel, rfl, by decide +kernel, by decide +kernel⟩
abbrev s__law_is_moved : Stmt := topS 87
abbrev n__law_is_moved : List Str := ["_law_told", "_law_other", "_law_places", "_law_value", "_law_kind"]
theorem sc__law_is_moved : FnScope n__law_is_moved ["_law_told", "_law_other", "_law_places"] (defScope s__law_is_moved) := ⟨rfl, rfl, rfl, by decide +kernel, rfl, by decide +kernel, by decide +kernel⟩
abbrev s_law : Stmt := topS 88
abbrev n_law : List Str := ["_law_script", "_law_bag_here", "_law_turn", "_law_most", "_law_parts", "_law_values_here", "_law_usable_here", "_law_book_here", "_law_web", "_law_prices", "_law_ways", "_law_told", "_law_chosen_one", "_law_value", "_law_tree", "_law_last", "_law_kind", "_law_small", "_law_less", "_law_places", "_law_many", "_law_rules", "_law_dear", "_law_price_here", "_law_rule", "_law_move", "_law_thing"]
theorem sc_law : FnScope n_law ["_law_script"] (defScope s_law) := ⟨rfl, rfl, rfl, by decide +kernel, rfl, by decide +kernel, by decide +kernel⟩
end Lk
end

section
set_option Elab.async false
set_option linter.all false
set_option maxRecDepth 100000
set_option maxHeartbeats 1000000
/-! The small checks. -/
namespace Lk
open PySem PySem.Spec L2
open PyProof.Rows hiding St
open Evl (Ex)
abbrev FnP (K : PySem.W.Frag) (x : Str) (st : Stmt) (f : Addr) (fd : FuncData) : Prop := FunD K x x (defArgs st) (defBody st) (defScope st) [] [] f fd
section
variable {P : Program} {w : World} {K : PySem.W.Frag} {mg : Str → Option Value} {base : Heap} {f : Addr} {fd : FuncData}
abbrev spIsInteger : Sp := mkSp (α := Int) (fun _ _ => True) (fun i => [vZ i]) (fun _ _ => vB true)
theorem fc_is_integer (hf : Free mg) (F : FnP K "is_integer" s_is_integer f fd) (gm : mg "is_integer" = some (.ref f)) : Fc P w K mg base 1 "is_integer" spIsInteger := by
  refine fc_of F gm sc_is_integer (F.bindsN fun _ _ _ _ _ _ us hl => match us, hl with | [_], _ => rfl) (fun _ => rfl) ?_
  intro i Fr cdv A outer s E hr hp
  refine js_ret (P := vB true) ?_ (fun _ _ h => h)
  refine je_and (k := true) (l := true) (je_isiInt hf (je_name 0)) fun _ => je_one (je_not (je_isiBool hf (je_name 0)))
abbrev spIsWithin : Sp := mkSp (α := Int × Int × Int) (fun _ _ => True) (fun a => [vZ a.1, vZ a.2.1, vZ a.2.2]) (fun a _ => vB (decide (a.2.1 ≤ a.1) && decide (a.1 ≤ a.2.2)))
theorem fc_is_within (c1 : Fc P w K mg base 1 "is_integer" spIsInteger) (F : FnP K "is_within" s_is_within f fd) (gm : mg "is_within" = some (.ref f)) : Fc P w K mg base 2 "is_within" spIsWithin := by
  refine fc_of F gm sc_is_within (F.bindsN fun _ _ _ _ _ _ us hl => match us, hl with | [_, _, _], _ => rfl) (fun _ => rfl) ?_
  intro i Fr cdv A outer s E hr hp
  refine js_ret (P := vB (true && (decide (i.2.1 ≤ i.1) && decide (i.1 ≤ i.2.2)))) ?_ (fun _ _ h => h)
  refine je_and (je_call c1 hr i.1 trivial (ja1 (je_name 0)) (fun _ _ _ h => h)) fun _ => je_one (je_chainI op_le op_le (je_name 1) (je_name 0) (je_name 2))
abbrev spIsTupleOf : Sp := mkSp (α := List D × Nat) (fun _ _ => True) (fun a => [vD (.tup a.1), vN a.2]) (fun a _ => vB (decide ((a.1.length : Int) = a.2)))
theorem fc_is_tuple_of (hf : Free mg) (F : FnP K "is_tuple_of" s_is_tuple_of f fd) (gm : mg "is_tuple_of" = some (.ref f)) : Fc P w K mg base 1 "is_tuple_of" spIsTupleOf := by
  refine fc_of F gm sc_is_tuple_of (F.bindsN fun _ _ _ _ _ _ us hl => match us, hl with | [_, _], _ => rfl) (fun _ => rfl) ?_
  intro i Fr cdv A outer s E hr hp
  refine js_ret (P := vB (true && decide ((i.1.length : Int) = i.2))) ?_ (fun _ _ h => h)
  refine je_and (je_isiTup hf (je_name 0)) fun _ => je_one (je_imp (je_eqD hr (je_lenT hf (je_name 0)) (je_name 1)) fun v K h => ?_)
  rw [show v = _ from h]
  show V.bl _ = V.bl _
  congr 1
  simp
abbrev dN (n : Nat) : D := .num (n : Int)
abbrev dTN (ns : List Nat) : D := .tup (ns.map dN)
abbrev spAreWithin : Sp := mkSp (α := List Nat × Int × Int) (fun a _ => a.1.length < 100000) (fun a => [vD (dTN a.1), vZ a.2.1, vZ a.2.2]) (fun a _ => vB (a.1.all fun i => decide (a.2.1 ≤ (i : Int)) && decide ((i : Int) ≤ a.2.2)))
theorem fc_are_within (hf : Free mg) (c1 : Fc P w K mg base 2 "is_within" spIsWithin) (F : FnP K "are_within" s_are_within f fd) (gm : mg "are_within" = some (.ref f)) : Fc P w K mg base 3 "are_within" spAreWithin := by
  refine fc_of F gm sc_are_within (F.bindsN fun _ _ _ _ _ _ us hl => match us, hl with | [_, _, _], _ => rfl) (fun _ => rfl) ?_
  intro i Fr cdv A outer s E hr hp
  refine js_ret (P := vB (true && ((i.1.map fun (j : Nat) => decide (i.2.1 ≤ (j : Int)) && decide ((j : Int) ≤ i.2.2)).all id))) ?_ (fun v K h => by rw [show v = _ from h]; show V.bl _ = V.bl _; rw [List.all_map]; simp)
  refine je_and (je_isiTup hf (je_name 0)) fun _ => je_one (je_all rfl hf ?_)
  refine je_imp (je_new (jn_lc [("item", 3)] i.1 (fun (j : Nat) => vN j) (fun _ => true) (fun (j : Nat) => vB (decide (i.2.1 ≤ (j : Int)) && decide ((j : Int) ≤ i.2.2))) rfl sc_are_within.nd (blkOk_by (by rfl)) (ji_imp (ji_tupD (je_name 0)) (by rw [List.map_map]; rfl)) (Nat.lt_trans hp (by decide)) ?_)) (fun v K h => by
    rw [List.filter_eq_self.mpr (fun _ _ => rfl)] at h
    rw [List.map_map]; exact h)
  intro j hj A' O v Pc
  refine jelt1 3 sc_are_within.nd fun s H0 C cl fp => ⟨jts_nil, fun _ => ?_⟩
  exact je_call c1 hr ((j : Int), i.2.1, i.2.2) trivial (ja_cons (je_name 3) (ja_cons (je_name 1) (ja1 (je_name 2)))) (fun _ _ _ h => h)
end
end Lk
end

section
set_option Elab.async false
set_option linter.all false
set_option maxHeartbeats 1000000
/-! The plain model: books, webs, ways, what can be made, the least price of a derivation. No program in sight. -/
namespace Lk.M
structure Rl where
  op : Nat
  src : List Nat
  dst : Nat
  pr : Nat
  deriving DecidableEq
structure Mv where
  frm : Nat
  to : Nat
  pr : Nat
  deriving DecidableEq
structure Bk where
  ar : List Nat
  kn : Nat
  ru : List Rl
  mv : List Mv
structure Vl where
  op : Nat
  parts : List Nat
  deriving DecidableEq
abbrev Wb := List Vl
abbrev Th := Nat × Nat
inductive Wy where
  | mv (n : Nat)
  | ru (n : Nat)
  deriving DecidableEq
instance : Inhabited Rl := ⟨⟨0, [], 0, 1⟩⟩
instance : Inhabited Mv := ⟨⟨0, 0, 1⟩⟩
instance : Inhabited Vl := ⟨⟨0, []⟩⟩
def Bk.rl (b : Bk) (n : Nat) : Rl := b.ru.getD n default
def Bk.mo (b : Bk) (n : Nat) : Mv := b.mv.getD n default
def vl (w : Wb) (v : Nat) : Vl := w.getD v default
def price (b : Bk) : Wy → Nat
  | .mv n => (b.mo n).pr
  | .ru n => (b.rl n).pr
/-- the ways of an op to a kind, in the program's order -/
def waysOf (b : Bk) (op kind : Nat) : List Wy :=
  ((List.range b.mv.length).filter fun n => decide ((b.mo n).to = kind)).map Wy.mv ++ ((List.range b.ru.length).filter fun n => decide ((b.rl n).op = op) && decide ((b.rl n).dst = kind)).map Wy.ru
def ways (b : Bk) (w : Wb) (t : Th) : List Wy := waysOf b (vl w t.1).op t.2
def needs (b : Bk) (w : Wb) (t : Th) : Wy → List Th
  | .mv n => [(t.1, (b.mo n).frm)]
  | .ru n => (vl w t.1).parts.zip (b.rl n).src
structure Bk.ok (b : Bk) : Prop where
  ar1 : 1 ≤ b.ar.length
  ar8 : b.ar.length ≤ 8
  ar2 : ∀ a ∈ b.ar, a ≤ 2
  kn1 : 1 ≤ b.kn
  kn5 : b.kn ≤ 5
  ru40 : b.ru.length ≤ 40
  mv20 : b.mv.length ≤ 20
  rl : ∀ r ∈ b.ru, r.op < b.ar.length ∧ (∀ k ∈ r.src, k < b.kn) ∧ b.ar[r.op]? = some r.src.length ∧ r.dst < b.kn ∧ 1 ≤ r.pr ∧ r.pr ≤ 1000
  mo : ∀ m ∈ b.mv, m.frm < b.kn ∧ m.to < b.kn ∧ m.frm ≠ m.to ∧ 1 ≤ m.pr ∧ m.pr ≤ 1000
  ruN : (b.ru.map fun r => (r.op, r.src, r.dst)).Nodup
  mvN : (b.mv.map fun m => (m.frm, m.to)).Nodup
structure Wok (b : Bk) (w : Wb) : Prop where
  len : w.length ≤ 200
  at_ : ∀ v, v < w.length → (vl w v).op < b.ar.length ∧ b.ar[(vl w v).op]? = some (vl w v).parts.length ∧ ∀ p ∈ (vl w v).parts, p < v
theorem mem_waysOf {b : Bk} {op kind : Nat} {y : Wy} : y ∈ waysOf b op kind ↔ (∃ n, y = .mv n ∧ n < b.mv.length ∧ (b.mo n).to = kind) ∨ ∃ n, y = .ru n ∧ n < b.ru.length ∧ (b.rl n).op = op ∧ (b.rl n).dst = kind := by
  unfold waysOf
  simp only [List.mem_append, List.mem_map, List.mem_filter, List.mem_range, Bool.and_eq_true, decide_eq_true_eq]
  constructor
  · rintro (⟨n, ⟨h1, h2⟩, rfl⟩ | ⟨n, ⟨h1, h2, h3⟩, rfl⟩)
    · exact .inl ⟨n, rfl, h1, h2⟩
    · exact .inr ⟨n, rfl, h1, h2, h3⟩
  · rintro (⟨n, rfl, h1, h2⟩ | ⟨n, rfl, h1, h2, h3⟩)
    · exact .inl ⟨n, ⟨h1, h2⟩, rfl⟩
    · exact .inr ⟨n, ⟨h1, h2, h3⟩, rfl⟩
theorem getD_mem {α : Type} {l : List α} {n : Nat} {d : α} (h : n < l.length) : l.getD n d ∈ l := by
  rw [List.getD_eq_getElem?_getD, List.getElem?_eq_getElem h]
  exact List.getElem_mem h
theorem price_pos {b : Bk} (ok : b.ok) {op kind : Nat} {y : Wy} (h : y ∈ waysOf b op kind) : 1 ≤ price b y := by
  rcases mem_waysOf.mp h with ⟨n, rfl, h1, h2⟩ | ⟨n, rfl, h1, h2, h3⟩
  · exact (ok.mo _ (getD_mem h1)).2.2.2.1
  · exact (ok.rl _ (getD_mem h1)).2.2.2.2.1
/-- t is made at the cost c, by some derivation -/
inductive Dv (b : Bk) (w : Wb) : Th → Nat → Prop where
  | mk (t : Th) (y : Wy) (cs : List Nat) (h1 : t.1 < w.length) (h2 : t.2 < b.kn) (hy : y ∈ ways b w t) (hl : cs.length = (needs b w t y).length)
      (hc : ∀ (i : Nat) (n : Th) (c : Nat), (needs b w t y)[i]? = some n → cs[i]? = some c → Dv b w n c) : Dv b w t (price b y + cs.sum)
def Mk (b : Bk) (w : Wb) (t : Th) : Prop := ∃ c, Dv b w t c
/-- the least number of a kind that there is -/
theorem least {p : Nat → Prop} (h : ∃ n, p n) : ∃ n, p n ∧ ∀ m, p m → n ≤ m := by
  obtain ⟨n, hn⟩ := h
  induction n using Nat.strongRecOn with
  | ind n ih =>
    by_cases e : ∃ m, m < n ∧ p m
    · obtain ⟨m, h1, h2⟩ := e
      exact ih m h1 h2
    · refine ⟨n, hn, fun m hm => ?_⟩
      rcases Nat.lt_or_ge m n with z | z
      · exact absurd ⟨m, z, hm⟩ e
      · exact z
open Classical in
noncomputable def opt (b : Bk) (w : Wb) (t : Th) : Nat := if h : Mk b w t then (least h).choose else 0
theorem opt_dv {b : Bk} {w : Wb} {t : Th} (h : Mk b w t) : Dv b w t (opt b w t) := by
  unfold opt
  rw [dif_pos h]
  exact (least h).choose_spec.1
theorem opt_le {b : Bk} {w : Wb} {t : Th} {c : Nat} (h : Dv b w t c) : opt b w t ≤ c := by
  have hm : Mk b w t := ⟨c, h⟩
  unfold opt
  rw [dif_pos hm]
  exact (least hm).choose_spec.2 c h
theorem Mk.val {b : Bk} {w : Wb} {t : Th} (h : Mk b w t) : t.1 < w.length ∧ t.2 < b.kn := by
  obtain ⟨c, h⟩ := h
  cases h with
  | mk t y cs h1 h2 hy hl hc => exact ⟨h1, h2⟩
theorem mk_of {b : Bk} {w : Wb} {t : Th} {y : Wy} (h1 : t.1 < w.length) (h2 : t.2 < b.kn) (hy : y ∈ ways b w t) (hn : ∀ n ∈ needs b w t y, Mk b w n) : Dv b w t (price b y + ((needs b w t y).map (opt b w)).sum) := by
  refine .mk t y _ h1 h2 hy (List.length_map ..) fun i n c e1 e2 => ?_
  rw [List.getElem?_map, e1] at e2
  cases e2
  exact opt_dv (hn n (List.mem_of_getElem? e1))
theorem Mk.way {b : Bk} {w : Wb} {t : Th} (h : Mk b w t) : ∃ y ∈ ways b w t, ∀ n ∈ needs b w t y, Mk b w n := by
  obtain ⟨c, h⟩ := h
  cases h with
  | mk t y cs h1 h2 hy hl hc =>
    refine ⟨y, hy, fun n hn => ?_⟩
    obtain ⟨i, hi⟩ := List.getElem?_of_mem hn
    have hl' : i < cs.length := by rw [hl]; exact (List.getElem?_eq_some_iff.mp hi).1
    exact ⟨_, hc i n _ hi (List.getElem?_eq_getElem hl')⟩
open Classical in
noncomputable def usable (b : Bk) (w : Wb) (t : Th) : List Wy := (ways b w t).filter fun y => decide (∀ n ∈ needs b w t y, Mk b w n)
theorem mem_usable {b : Bk} {w : Wb} {t : Th} {y : Wy} : y ∈ usable b w t ↔ y ∈ ways b w t ∧ ∀ n ∈ needs b w t y, Mk b w n := by
  classical
  unfold usable
  rw [List.mem_filter, decide_eq_true_eq]
def tot (b : Bk) (w : Wb) (p : Th → Nat) (t : Th) (y : Wy) : Nat := price b y + ((needs b w t y).map p).sum
structure Sol (b : Bk) (w : Wb) (p : Th → Nat) : Prop where
  le : ∀ t, Mk b w t → ∀ y ∈ usable b w t, p t ≤ tot b w p t y
  at_ : ∀ t, Mk b w t → ∃ y ∈ usable b w t, p t = tot b w p t y
theorem sum_le : ∀ {l : List Th} {p q : Th → Nat}, (∀ n ∈ l, p n ≤ q n) → (l.map p).sum ≤ (l.map q).sum
  | [], _, _, _ => Nat.le_refl _
  | a :: l, p, q, h => by
    rw [List.map_cons, List.map_cons, List.sum_cons, List.sum_cons]
    exact Nat.add_le_add (h a (List.mem_cons_self ..)) (sum_le fun n hn => h n (List.mem_cons_of_mem _ hn))
theorem le_sum : ∀ {l : List Th} {p : Th → Nat} {n : Th}, n ∈ l → p n ≤ (l.map p).sum
  | a :: l, p, n, h => by
    rw [List.map_cons, List.sum_cons]
    rcases List.mem_cons.mp h with e | h
    · rw [e]; exact Nat.le_add_right _ _
    · exact Nat.le_trans (le_sum h) (Nat.le_add_left _ _)
theorem sum_le2 : ∀ {l : List Th} {p : Th → Nat} {cs : List Nat}, cs.length = l.length → (∀ (i : Nat) (n : Th) (c : Nat), l[i]? = some n → cs[i]? = some c → p n ≤ c) → (l.map p).sum ≤ cs.sum
  | [], _, [], _, _ => Nat.le_refl _
  | a :: l, p, c :: cs, hl, h => by
    rw [List.map_cons, List.sum_cons, List.sum_cons]
    exact Nat.add_le_add (h 0 a c rfl rfl) (sum_le2 (by simpa using hl) fun i n c e1 e2 => h (i + 1) n c e1 e2)
theorem opt_sol (b : Bk) (w : Wb) : Sol b w (opt b w) := by
  refine ⟨fun t ht y hy => ?_, fun t ht => ?_⟩
  · obtain ⟨h1, h2⟩ := mem_usable.mp hy
    exact opt_le (mk_of ht.val.1 ht.val.2 h1 h2)
  · have hd := opt_dv ht
    generalize hc : opt b w t = c at hd
    cases hd with
    | mk t y cs h1 h2 hy hl hcs =>
      have hn : ∀ n ∈ needs b w t y, Mk b w n := fun n hn => by
        obtain ⟨i, hi⟩ := List.getElem?_of_mem hn
        have hl' : i < cs.length := by rw [hl]; exact (List.getElem?_eq_some_iff.mp hi).1
        exact ⟨_, hcs i n _ hi (List.getElem?_eq_getElem hl')⟩
      refine ⟨y, mem_usable.mpr ⟨hy, hn⟩, Nat.le_antisymm ?_ ?_⟩
      · rw [← hc]
        exact opt_le (mk_of h1 h2 hy hn)
      · exact Nat.add_le_add_left (sum_le2 hl fun i n c e1 e2 => opt_le (hcs i n c e1 e2)) _
theorem sol_opt {b : Bk} {w : Wb} {p : Th → Nat} (ok : b.ok) (s : Sol b w p) : ∀ t, Mk b w t → p t = opt b w t := by
  have up : ∀ t c, Dv b w t c → p t ≤ c := by
    intro t c h
    induction h with
    | mk t y cs h1 h2 hy hl hc ih =>
      have hn : ∀ n ∈ needs b w t y, Mk b w n := fun n hn => by
        obtain ⟨i, hi⟩ := List.getElem?_of_mem hn
        have hl' : i < cs.length := by rw [hl]; exact (List.getElem?_eq_some_iff.mp hi).1
        exact ⟨_, hc i n _ hi (List.getElem?_eq_getElem hl')⟩
      have ht : Mk b w t := ⟨_, .mk t y cs h1 h2 hy hl hc⟩
      exact Nat.le_trans (s.le t ht y (mem_usable.mpr ⟨hy, hn⟩)) (Nat.add_le_add_left (sum_le2 hl ih) _)
  have dn : ∀ k t, Mk b w t → p t ≤ k → opt b w t ≤ p t := by
    intro k
    induction k with
    | zero =>
      intro t ht hk
      obtain ⟨y, hy, e⟩ := s.at_ t ht
      have := price_pos ok (mem_usable.mp hy).1
      unfold tot at e
      omega
    | succ k ih =>
      intro t ht hk
      obtain ⟨y, hy, e⟩ := s.at_ t ht
      have h1 := price_pos ok (mem_usable.mp hy).1
      have hn := (mem_usable.mp hy).2
      have h2 := (opt_sol b w).le t ht y hy
      refine Nat.le_trans h2 ?_
      rw [e]
      unfold tot
      refine Nat.add_le_add_left (sum_le fun n hm => ih n (hn n hm) ?_) _
      have := le_sum (p := p) hm
      unfold tot at e
      omega
  exact fun t ht => Nat.le_antisymm (up t _ (opt_dv ht)) (dn _ t ht (Nat.le_refl _))
theorem opt_pos {b : Bk} {w : Wb} (ok : b.ok) {t : Th} (ht : Mk b w t) : 1 ≤ opt b w t := by
  obtain ⟨y, hy, e⟩ := (opt_sol b w).at_ t ht
  have := price_pos ok (mem_usable.mp hy).1
  unfold tot at e
  omega

/-! ### the way of one's own -/
/-- (price, way) in order -/
def wyLt : Wy → Wy → Bool
  | .mv m, .mv n => decide (m < n)
  | .mv _, .ru _ => true
  | .ru _, .mv _ => false
  | .ru m, .ru n => decide (m < n)
def pwLt (b : Bk) (x y : Wy) : Bool := decide (price b x < price b y) || (decide (price b x = price b y) && wyLt x y)
theorem wyLt_tri (x y : Wy) : wyLt x y = true ∨ x = y ∨ wyLt y x = true := by
  cases x <;> cases y <;> simp only [wyLt, decide_eq_true_eq, Wy.mv.injEq, Wy.ru.injEq, reduceCtorEq, false_or, or_false, or_true, true_or, Bool.false_eq_true] <;> omega
theorem wyLt_irr (x : Wy) : wyLt x x = false := by cases x <;> simp [wyLt]
theorem wyLt_asym {x y : Wy} (h : wyLt x y = true) : wyLt y x = false := by
  cases x <;> cases y <;> simp only [wyLt, decide_eq_true_eq, decide_eq_false_iff_not, Bool.false_eq_true] at h ⊢ <;> omega
theorem pwLt_tri (b : Bk) (x y : Wy) : pwLt b x y = true ∨ x = y ∨ pwLt b y x = true := by
  unfold pwLt
  rcases Nat.lt_trichotomy (price b x) (price b y) with h | h | h
  · exact .inl (by simp [h])
  · rcases wyLt_tri x y with z | z | z
    · exact .inl (by simp [h, z])
    · exact .inr (.inl z)
    · exact .inr (.inr (by simp [h, z]))
  · exact .inr (.inr (by simp [h]))
theorem pwLt_asym {b : Bk} {x y : Wy} (h : pwLt b x y = true) : pwLt b y x = false := by
  unfold pwLt at h ⊢
  simp only [Bool.or_eq_true, Bool.and_eq_true, decide_eq_true_eq] at h
  rcases h with h | ⟨h, h2⟩
  · have a1 : ¬ price b y < price b x := by omega
    have a2 : ¬ price b y = price b x := by omega
    simp [a1, a2]
  · have a1 : ¬ price b y < price b x := by omega
    simp [a1, h, wyLt_asym h2]
/-- the cheapest way, the least of such -/
def Own (b : Bk) (w : Wb) (t : Th) (y : Wy) : Prop := y ∈ usable b w t ∧ tot b w (opt b w) t y = opt b w t ∧ ∀ z ∈ usable b w t, tot b w (opt b w) t z = opt b w t → pwLt b z y = false
theorem Own.uniq {b : Bk} {w : Wb} {t : Th} {x y : Wy} (h : Own b w t x) (h' : Own b w t y) : x = y := by
  rcases pwLt_tri b x y with z | z | z
  · rw [h'.2.2 x h.1 h.2.1] at z; cases z
  · exact z
  · rw [h.2.2 y h'.1 h'.2.1] at z; cases z
theorem min_ex (b : Bk) (q : Wy → Prop) : ∀ l : List Wy, (∃ y ∈ l, q y) → ∃ y ∈ l, q y ∧ ∀ z ∈ l, q z → pwLt b z y = false
  | [], h => by obtain ⟨_, h, _⟩ := h; exact nomatch h
  | a :: l, h => by
    by_cases e : ∃ y ∈ l, q y
    · obtain ⟨y, h1, h2, h3⟩ := min_ex b q l e
      by_cases qa : q a
      · cases z : pwLt b a y with
        | true =>
          refine ⟨a, List.mem_cons_self .., qa, fun x hx qx => ?_⟩
          rcases List.mem_cons.mp hx with e | hx
          · rw [e]
            cases w : pwLt b a a with
            | false => rfl
            | true => exact absurd (pwLt_asym w) (by rw [w]; exact fun z => nomatch z)
          · have h4 := h3 x hx qx
            cases w : pwLt b x a with
            | false => rfl
            | true =>
              -- x < a < y
              exfalso
              rcases pwLt_tri b x y with u | u | u
              · rw [h4] at u; cases u
              · subst u; rw [pwLt_asym z] at w; cases w
              · unfold pwLt at z w u
                simp only [Bool.or_eq_true, Bool.and_eq_true, decide_eq_true_eq] at z w u
                rcases z with z | ⟨z, z2⟩
                · rcases w with w | ⟨w, w2⟩ <;> rcases u with u | ⟨u, u2⟩ <;> omega
                · rcases w with w | ⟨w, w2⟩
                  · rcases u with u | ⟨u, u2⟩ <;> omega
                  · rcases u with u | ⟨u, u2⟩
                    · omega
                    · cases x <;> cases y <;> cases a <;> simp only [wyLt, decide_eq_true_eq, Bool.false_eq_true] at z2 w2 u2 <;> omega
        | false =>
          refine ⟨y, List.mem_cons_of_mem _ h1, h2, fun x hx qx => ?_⟩
          rcases List.mem_cons.mp hx with e | hx
          · rw [e]; exact z
          · exact h3 x hx qx
      · refine ⟨y, List.mem_cons_of_mem _ h1, h2, fun x hx qx => ?_⟩
        rcases List.mem_cons.mp hx with e | hx
        · rw [e] at qx; exact absurd qx qa
        · exact h3 x hx qx
    · obtain ⟨y, h1, h2⟩ := h
      rcases List.mem_cons.mp h1 with e0 | h1
      · subst e0
        refine ⟨y, List.mem_cons_self .., h2, fun x hx qx => ?_⟩
        rcases List.mem_cons.mp hx with e1 | hx
        · rw [e1]
          cases w : pwLt b y y with
          | false => rfl
          | true => exact absurd (pwLt_asym w) (by rw [w]; exact fun z => nomatch z)
        · exact absurd ⟨x, hx, qx⟩ e
      · exact absurd ⟨y, h1, h2⟩ e
theorem own_ex {b : Bk} {w : Wb} {t : Th} (h : Mk b w t) : ∃ y, Own b w t y := by
  obtain ⟨y, h1, h2⟩ := (opt_sol b w).at_ t h
  obtain ⟨z, a1, a2, a3⟩ := min_ex b (fun y => tot b w (opt b w) t y = opt b w t) (usable b w t) ⟨y, h1, h2.symm⟩
  exact ⟨z, a1, a2, a3⟩
open Classical in
noncomputable def ownW (b : Bk) (w : Wb) (t : Th) : Wy := if h : Mk b w t then (own_ex h).choose else .mv 0
theorem ownW_own {b : Bk} {w : Wb} {t : Th} (h : Mk b w t) : Own b w t (ownW b w t) := by
  unfold ownW
  rw [dif_pos h]
  exact (own_ex h).choose_spec
/-- along a way the price falls -/
theorem opt_lt {b : Bk} {w : Wb} (ok : b.ok) {t n : Th} {y : Wy} (h1 : y ∈ usable b w t) (h2 : tot b w (opt b w) t y = opt b w t) (hn : n ∈ needs b w t y) : opt b w n < opt b w t := by
  have := price_pos ok (mem_usable.mp h1).1
  have := le_sum (p := opt b w) hn
  unfold tot at h2
  omega

/-! ### the things in order -/
def allT (b : Bk) (n : Nat) : List Th := (List.range n).flatMap fun v => (List.range b.kn).map fun k => (v, k)
theorem mem_allT {b : Bk} {n : Nat} {t : Th} : t ∈ allT b n ↔ t.1 < n ∧ t.2 < b.kn := by
  unfold allT
  simp only [List.mem_flatMap, List.mem_range, List.mem_map]
  constructor
  · rintro ⟨v, h1, k, h2, rfl⟩; exact ⟨h1, h2⟩
  · rintro ⟨h1, h2⟩; exact ⟨t.1, h1, t.2, h2, rfl⟩
open Classical in
noncomputable def U (b : Bk) (w : Wb) : List Th := (allT b w.length).filter fun t => decide (Mk b w t)
theorem mem_U {b : Bk} {w : Wb} {t : Th} : t ∈ U b w ↔ Mk b w t := by
  classical
  unfold U
  rw [List.mem_filter, decide_eq_true_eq, mem_allT]
  exact ⟨fun h => h.2, fun h => ⟨h.val, h⟩⟩
def tLt (s t : Th) : Prop := s.1 < t.1 ∨ (s.1 = t.1 ∧ s.2 < t.2)
theorem allT_sorted (b : Bk) (n : Nat) : (allT b n).Pairwise tLt := by
  unfold allT
  rw [List.pairwise_flatMap]
  refine ⟨fun v hv => ?_, ?_⟩
  · rw [List.pairwise_map]
    exact List.pairwise_lt_range.imp fun h => .inr ⟨rfl, h⟩
  · refine List.pairwise_lt_range.imp fun h x hx y hy => ?_
    obtain ⟨k, _, rfl⟩ := List.mem_map.mp hx
    obtain ⟨l, _, rfl⟩ := List.mem_map.mp hy
    exact .inl h
theorem U_sorted (b : Bk) (w : Wb) : (U b w).Pairwise tLt := (allT_sorted b w.length).filter _
theorem U_nodup (b : Bk) (w : Wb) : (U b w).Nodup := (U_sorted b w).imp fun h e => by subst e; unfold tLt at h; omega

/-! ### webs that look alike -/
structure Hom (b : Bk) (w w' : Wb) (S : Nat → Prop) (φ : Nat → Nat) : Prop where
  dom : ∀ v, S v → v < w.length ∧ φ v < w'.length
  op : ∀ v, S v → (vl w' (φ v)).op = (vl w v).op
  parts : ∀ v, S v → (vl w' (φ v)).parts = (vl w v).parts.map φ
  cl : ∀ v, S v → ∀ p ∈ (vl w v).parts, S p
section
variable {b : Bk} {w w' : Wb} {S : Nat → Prop} {φ : Nat → Nat}
def mapT (φ : Nat → Nat) (t : Th) : Th := (φ t.1, t.2)
theorem Hom.ways (h : Hom b w w' S φ) {t : Th} (ht : S t.1) : ways b w' (mapT φ t) = ways b w t := by
  unfold M.ways mapT
  rw [h.op t.1 ht]
theorem Hom.needs (h : Hom b w w' S φ) {t : Th} (ht : S t.1) (y : Wy) : needs b w' (mapT φ t) y = (needs b w t y).map (mapT φ) := by
  cases y with
  | mv n => rfl
  | ru n =>
    unfold M.needs
    show List.zip (vl w' (φ t.1)).parts _ = _
    rw [h.parts t.1 ht, List.zip_map_left]
    rfl
theorem Hom.closed (h : Hom b w w' S φ) {t : Th} (ht : S t.1) {y : Wy} {n : Th} (hn : n ∈ M.needs b w t y) : S n.1 := by
  cases y with
  | mv k =>
    rw [List.mem_singleton.mp hn]; exact ht
  | ru k => exact h.cl t.1 ht n.1 (List.of_mem_zip hn).1
theorem Hom.to (h : Hom b w w' S φ) {t : Th} {c : Nat} (d : Dv b w t c) : S t.1 → Dv b w' (mapT φ t) c := by
  induction d with
  | mk t y cs h1 h2 hy hl hc ih =>
    intro ht
    refine .mk (mapT φ t) y cs (h.dom _ ht).2 h2 (by rw [h.ways ht]; exact hy) (by rw [h.needs ht, List.length_map]; exact hl) fun i n c e1 e2 => ?_
    rw [h.needs ht, List.getElem?_map] at e1
    obtain ⟨m, e3, rfl⟩ := Option.map_eq_some_iff.mp e1
    exact ih i m c e3 e2 (h.closed ht (List.mem_of_getElem? e3))
theorem Hom.from (h : Hom b w w' S φ) {t' : Th} {c : Nat} (d : Dv b w' t' c) : ∀ t : Th, S t.1 → t' = mapT φ t → Dv b w t c := by
  induction d with
  | mk t' y cs h1 h2 hy hl hc ih =>
    intro t ht e
    subst e
    rw [h.ways ht] at hy
    rw [h.needs ht, List.length_map] at hl
    refine .mk t y cs (h.dom _ ht).1 h2 hy hl fun i n c e1 e2 => ?_
    exact ih i (mapT φ n) c (by rw [h.needs ht, List.getElem?_map, e1]; rfl) e2 n (h.closed ht (List.mem_of_getElem? e1)) rfl
theorem Hom.dv (h : Hom b w w' S φ) {t : Th} (ht : S t.1) (c : Nat) : Dv b w' (mapT φ t) c ↔ Dv b w t c := ⟨fun d => h.from d t ht rfl, fun d => h.to d ht⟩
theorem Hom.mks (h : Hom b w w' S φ) {t : Th} (ht : S t.1) : Mk b w' (mapT φ t) ↔ Mk b w t := ⟨fun ⟨c, d⟩ => ⟨c, (h.dv ht c).mp d⟩, fun ⟨c, d⟩ => ⟨c, (h.dv ht c).mpr d⟩⟩
theorem Hom.opt (h : Hom b w w' S φ) {t : Th} (ht : S t.1) : opt b w' (mapT φ t) = opt b w t := by
  by_cases m : Mk b w t
  · exact Nat.le_antisymm (opt_le ((h.dv ht _).mpr (opt_dv m))) (opt_le ((h.dv ht _).mp (opt_dv ((h.mks ht).mpr m))))
  · have m' : ¬ Mk b w' (mapT φ t) := fun z => m ((h.mks ht).mp z)
    unfold M.opt
    rw [dif_neg m, dif_neg m']
theorem Hom.usable (h : Hom b w w' S φ) {t : Th} (ht : S t.1) : usable b w' (mapT φ t) = usable b w t := by
  unfold M.usable
  rw [h.ways ht]
  apply List.filter_congr
  intro y _
  apply decide_eq_decide.mpr
  rw [h.needs ht]
  constructor
  · intro q n hn
    exact (h.mks (h.closed ht hn)).mp (q _ (List.mem_map_of_mem hn))
  · intro q n hn
    obtain ⟨m, hm, rfl⟩ := List.mem_map.mp hn
    exact (h.mks (h.closed ht hm)).mpr (q m hm)
theorem Hom.tot (h : Hom b w w' S φ) {t : Th} (ht : S t.1) (y : Wy) : tot b w' (M.opt b w') (mapT φ t) y = tot b w (M.opt b w) t y := by
  unfold M.tot
  rw [h.needs ht, List.map_map]
  congr 2
  apply List.map_congr_left
  intro n hn
  exact h.opt (h.closed ht hn)
theorem Hom.own (h : Hom b w w' S φ) {t : Th} (ht : S t.1) (y : Wy) : Own b w' (mapT φ t) y ↔ Own b w t y := by
  unfold Own
  rw [h.usable ht, h.tot ht, h.opt ht]
  constructor
  · rintro ⟨a, b, c⟩; exact ⟨a, b, fun z hz e => c z hz (by rw [h.tot ht]; exact e)⟩
  · rintro ⟨a, b, c⟩; exact ⟨a, b, fun z hz e => c z hz (by rw [h.tot ht] at e; exact e)⟩
theorem Hom.ownW (h : Hom b w w' S φ) {t : Th} (ht : S t.1) (m : Mk b w t) : ownW b w' (mapT φ t) = ownW b w t :=
  Own.uniq ((h.own ht _).mp (ownW_own ((h.mks ht).mpr m))) (ownW_own m)
end

/-! ### every price times a number -/
def scl (m : Nat) (b : Bk) : Bk := { b with ru := b.ru.map fun r => { r with pr := m * r.pr }, mv := b.mv.map fun r => { r with pr := m * r.pr } }
section
variable {b : Bk} {w : Wb} {m : Nat}
theorem scl_rl {n : Nat} (h : n < b.ru.length) : (scl m b).rl n = { b.rl n with pr := m * (b.rl n).pr } := by
  unfold Bk.rl scl
  simp [List.getD_eq_getElem?_getD, h]
theorem scl_mo {n : Nat} (h : n < b.mv.length) : (scl m b).mo n = { b.mo n with pr := m * (b.mo n).pr } := by
  unfold Bk.mo scl
  simp [List.getD_eq_getElem?_getD, h]
theorem scl_ways (op kind : Nat) : waysOf (scl m b) op kind = waysOf b op kind := by
  unfold waysOf
  have l1 : (scl m b).mv.length = b.mv.length := List.length_map ..
  have l2 : (scl m b).ru.length = b.ru.length := List.length_map ..
  rw [l1, l2]
  congr 2
  · apply List.filter_congr
    intro n hn
    rw [scl_mo (List.mem_range.mp hn)]
  · apply List.filter_congr
    intro n hn
    rw [scl_rl (List.mem_range.mp hn)]
theorem scl_price {op kind : Nat} {y : Wy} (h : y ∈ waysOf b op kind) : price (scl m b) y = m * price b y := by
  rcases mem_waysOf.mp h with ⟨n, rfl, h1, h2⟩ | ⟨n, rfl, h1, h2, h3⟩
  · show ((scl m b).mo n).pr = _; rw [scl_mo h1]; rfl
  · show ((scl m b).rl n).pr = _; rw [scl_rl h1]; rfl
theorem scl_needs {t : Th} {y : Wy} {op kind : Nat} (h : y ∈ waysOf b op kind) : needs (scl m b) w t y = needs b w t y := by
  rcases mem_waysOf.mp h with ⟨n, rfl, h1, h2⟩ | ⟨n, rfl, h1, h2, h3⟩
  · show [(t.1, ((scl m b).mo n).frm)] = _; rw [scl_mo h1]; rfl
  · show List.zip _ ((scl m b).rl n).src = _; rw [scl_rl h1]; rfl
theorem sum_mul : ∀ cs : List Nat, (cs.map (m * ·)).sum = m * cs.sum
  | [] => rfl
  | c :: l => by rw [List.map_cons, List.sum_cons, List.sum_cons, sum_mul l, Nat.mul_add]
theorem scl_to {t : Th} {c : Nat} (d : Dv b w t c) : Dv (scl m b) w t (m * c) := by
  induction d with
  | mk t y cs h1 h2 hy hl hc ih =>
    have hy' : y ∈ waysOf b (vl w t.1).op t.2 := hy
    have := Dv.mk (b := scl m b) (w := w) t y (cs.map (m * ·)) h1 h2 (by unfold ways; rw [scl_ways]; exact hy) (by rw [List.length_map, scl_needs hy']; exact hl) (fun i n c e1 e2 => by
      rw [scl_needs hy'] at e1
      rw [List.getElem?_map] at e2
      obtain ⟨c', e3, rfl⟩ := Option.map_eq_some_iff.mp e2
      exact ih i n c' e1 e3)
    rw [scl_price hy', sum_mul, ← Nat.mul_add] at this
    exact this
theorem all_mul : ∀ {cs : List Nat} {q : Nat → Nat → Prop}, (∀ (i c : Nat), cs[i]? = some c → ∃ d, c = m * d ∧ q i d) → ∃ ds : List Nat, cs = ds.map (m * ·) ∧ ∀ (i d : Nat), ds[i]? = some d → q i d
  | [], _, _ => ⟨[], rfl, fun _ _ e => nomatch e⟩
  | c :: cs, q, h => by
    obtain ⟨d, e, hq⟩ := h 0 c rfl
    obtain ⟨ds, e2, h2⟩ := all_mul (cs := cs) (q := fun i d => q (i + 1) d) fun i c e => h (i + 1) c e
    exact ⟨d :: ds, by rw [List.map_cons, e, e2], fun i d' e' => by
      cases i with
      | zero => cases e'; exact hq
      | succ j => exact h2 j d' e'⟩
theorem scl_from {t : Th} {c : Nat} (d : Dv (scl m b) w t c) : ∃ c', c = m * c' ∧ Dv b w t c' := by
  induction d with
  | mk t y cs h1 h2 hy hl hc ih =>
    have hy' : y ∈ waysOf b (vl w t.1).op t.2 := by have := hy; unfold ways at this; rw [scl_ways] at this; exact this
    rw [scl_needs hy'] at hl hc ih
    obtain ⟨ds, e, hd⟩ := all_mul (m := m) (cs := cs) (q := fun i d => ∀ n, (needs b w t y)[i]? = some n → Dv b w n d) fun i c hc' => by
      have hi : i < (needs b w t y).length := by rw [← hl]; exact (List.getElem?_eq_some_iff.mp hc').1
      obtain ⟨d, e, hd⟩ := ih i _ c (List.getElem?_eq_getElem hi) hc'
      exact ⟨d, e, fun n hn => by rw [List.getElem?_eq_getElem hi] at hn; cases hn; exact hd⟩
    refine ⟨price b y + ds.sum, by rw [e, scl_price hy', sum_mul, Nat.mul_add], .mk t y ds h1 h2 hy' (by rw [← hl, e, List.length_map]) fun i n c e1 e2 => hd i c e2 n e1⟩
theorem scl_mk (t : Th) : Mk (scl m b) w t ↔ Mk b w t := ⟨fun ⟨c, d⟩ => (let ⟨c', _, d'⟩ := scl_from d; ⟨c', d'⟩), fun ⟨c, d⟩ => ⟨_, scl_to d⟩⟩
theorem scl_opt (hm : 1 ≤ m) {t : Th} (ht : Mk b w t) : opt (scl m b) w t = m * opt b w t := by
  refine Nat.le_antisymm (opt_le (scl_to (opt_dv ht))) ?_
  obtain ⟨c', e, d⟩ := scl_from (opt_dv ((scl_mk (m := m) t).mpr ht))
  rw [e]
  exact Nat.mul_le_mul_left _ (opt_le d)
theorem scl_usable (t : Th) : usable (scl m b) w t = usable b w t := by
  unfold usable ways
  rw [scl_ways]
  apply List.filter_congr
  intro y hy
  apply decide_eq_decide.mpr
  rw [scl_needs hy]
  exact ⟨fun h n hn => (scl_mk n).mp (h n hn), fun h n hn => (scl_mk n).mpr (h n hn)⟩
theorem scl_U : U (scl m b) w = U b w := by
  unfold U allT
  apply List.filter_congr
  intro t _
  exact decide_eq_decide.mpr (scl_mk t)
theorem scl_tot (hm : 1 ≤ m) {t : Th} {y : Wy} (hy : y ∈ usable b w t) : tot (scl m b) w (opt (scl m b) w) t y = m * tot b w (opt b w) t y := by
  obtain ⟨h1, h2⟩ := mem_usable.mp hy
  unfold tot
  rw [scl_price h1, scl_needs h1, Nat.mul_add, ← sum_mul, List.map_map]
  congr 2
  apply List.map_congr_left
  intro n hn
  exact scl_opt hm (h2 n hn)
theorem scl_pwLt (hm : 1 ≤ m) {x y : Wy} {op kind : Nat} (hx : x ∈ waysOf b op kind) (hy : y ∈ waysOf b op kind) : pwLt (scl m b) x y = pwLt b x y := by
  unfold pwLt
  rw [scl_price hx, scl_price hy]
  congr 1
  · exact decide_eq_decide.mpr (Nat.mul_lt_mul_left hm)
  · congr 1
    exact decide_eq_decide.mpr ⟨fun h => Nat.eq_of_mul_eq_mul_left hm h, fun h => by rw [h]⟩
theorem scl_ownW (hm : 1 ≤ m) {t : Th} (ht : Mk b w t) : ownW (scl m b) w t = ownW b w t := by
  refine Own.uniq (b := b) (w := w) (t := t) ?_ (ownW_own ht)
  obtain ⟨h1, h2, h3⟩ := ownW_own ((scl_mk (m := m) t).mpr ht)
  rw [scl_usable] at h1 h3
  refine ⟨h1, ?_, fun z hz e => ?_⟩
  · rw [scl_tot hm h1, scl_opt hm ht] at h2
    exact Nat.eq_of_mul_eq_mul_left hm h2
  · have := h3 z hz (by rw [scl_tot hm hz, scl_opt hm ht, e])
    rw [scl_pwLt hm (mem_usable.mp hz).1 (mem_usable.mp h1).1] at this
    exact this
end
end Lk.M
end

section
set_option Elab.async false
set_option linter.all false
set_option maxRecDepth 100000
set_option maxHeartbeats 1000000
/-! The model's things as values; what the head tells. -/
namespace Lk
open PySem PySem.Spec L2
open PyProof.Rows hiding St
open Evl (Ex)
open M (Bk Rl Mv Vl Wb Wy)
def sMove : Str := "move"
def sRule : Str := "rule"
theorem fine_move : fine (.text sMove) = true := by decide +kernel
theorem fine_rule : fine (.text sRule) = true := by decide +kernel
def wyD : Wy → D
  | .mv n => .tup [.text sMove, dN n]
  | .ru n => .tup [.text sRule, dN n]
def rlD (r : Rl) : D := .tup [dN r.op, dTN r.src, dN r.dst, dN r.pr]
def mvD (m : Mv) : D := .tup [dN m.frm, dN m.to, dN m.pr]
def vlD (v : Vl) : D := .tup [dN v.op, dTN v.parts]
def rusD (b : Bk) : D := .tup (b.ru.map rlD)
def mvsD (b : Bk) : D := .tup (b.mv.map mvD)
def rowsD (w : Wb) : D := .tup (w.map vlD)
def bookV (CB : Addr) (b : Bk) : VP := vI CB [("arities", vD (dTN b.ar)), ("kinds", vN b.kn), ("rules", vD (rusD b)), ("moves", vD (mvsD b))]
def webV (CW CR : Addr) (w : Wb) : VP := ⟨fun v H => ∃ C, (C = CW ∨ C = CR) ∧ (vI C [("rows", vD (rowsD w))]).p v H, fun e ⟨C, h1, h2⟩ => ⟨C, h1, VP.mono _ e h2⟩⟩
structure Isi (K : PySem.W.Frag) (C D : Addr) : Prop where
  ha : PySem.W.findIn K (.ref C) "__class__" = some (some (.builtin "object.__class__"))
  hn : PySem.W.specialIn K (.builtin "object.__class__") "__get__" = some (some (.builtin "getset_descriptor.__get__"))
  ht : PySem.W.takesIn K (.builtin "object.__class__") = some true
  hm : PySem.W.mroIn K C (.type "object") = some true
  hk : PySem.W.kitOne K (.ref C) (.ref D) = some true
structure Gk (K : PySem.W.Frag) (mg : Str → Option Value) (CB CW CR : Addr) : Prop where
  fr : Free mg
  cB : Cls K CB
  cW : Cls K CW
  cR : Cls K CR
  nB : ∀ f ∈ (["arities", "kinds", "rules", "moves"] : List Str), NoAttr K CB f
  nW : NoAttr K CW "rows"
  nR : NoAttr K CR "rows"
  gB : mg "Book" = some (.ref CB)
  gW : mg "Web" = some (.ref CW)
  gR : mg "RawWeb" = some (.ref CR)
  iW : Isi K CW CW
  iR : Isi K CR CW
  i1 : ∃ t, mg "MOST_OPS" = some (.int 8 t)
  i2 : ∃ t, mg "MOST_KINDS" = some (.int 5 t)
  i3 : ∃ t, mg "MOST_PARTS_books" = some (.int 2 t)
  i4 : ∃ t, mg "MOST_RULES" = some (.int 40 t)
  i5 : ∃ t, mg "MOST_MOVES" = some (.int 20 t)
  i6 : ∃ t, mg "MOST_PRICE" = some (.int 1000 t)
  i7 : ∃ t, mg "MOST_OP" = some (.int 7 t)
  i8 : ∃ t, mg "MOST_PARTS_webs" = some (.int 2 t)
  i9 : ∃ t, mg "MOST_VALUES" = some (.int 200 t)
  i10 : ∃ t, mg "MOST_UNFOLDED" = some (.int 2000 t)
section
variable {F : Fm} {X : Cx} {Γ : Ct} {pos p q : Pos} {a b : Expr} {CB CW CR : Addr}
theorem je_rows {w : Wb} (g : Gk X.K X.mg CB CW CR) (h : JE F X Γ a (webV CW CR w)) (hb : attributeBase a "rows" X.env (eval a X.env) = eval a X.env := by rfl) : JE F X Γ (.Attribute a "rows" pos) (vD (rowsD w)) :=
  je_of (pe_fld pE hb) fun σ H Q E k => h σ H _ E fun v H1 s1 ⟨C, hC, x, dx, vs, h1, h2, h3⟩ => by
    obtain ⟨y, e1, e2⟩ := h3.look (k := "rows") (P := vD (rowsD w)) rfl
    refine ⟨x, C, dx, vs, y, h1, hid_ex _ _ _ _ h2, ?_, ?_, e1, k y H1 s1 e2⟩
    · rcases hC with rfl | rfl
      · exact g.cW
      · exact g.cR
    · rcases hC with rfl | rfl
      · exact g.nW
      · exact g.nR
theorem je_isWeb {w : Wb} (g : Gk X.K X.mg CB CW CR) (ha : JE F X Γ a (webV CW CR w)) (hgi : Gl X "Web" := by rfl) (hg : Gl X "isinstance" := by rfl)
    (hs : starEach [a, .Name "Web" q] X.env = (false, eval a X.env) :: starEach [.Name "Web" q] X.env := by rfl) (hpl : (backTo pos (starEach [.Name "Web" q] X.env)).any (·.1) = false := by rfl) : JE F X Γ (.Call (.Name "isinstance" p) [a, .Name "Web" q] [] pos) (vB true) :=
  je_callB call_isi (ja_cons ha (ja1 (je_of (pe_glob (v := .ref CW) hgi g.gW rfl) fun σ H Q E k => kt_here (P := vE (.ref CW)) k rfl)) hs) (fun σ H xs Q E h k => by
    cases h with
    | cons h1 h2 =>
      cases h2 with
      | cons h2 h3 =>
        cases h3
        cases (show _ = V.ref CW from h2)
        obtain ⟨C, hC, x, dx, vs, e1, e2, e3⟩ := h1
        rcases hC with rfl | rfl
        · exact ⟨_, _, _, _, true, rfl, .own _, .base (by subst e1; exact .ins (hid_ex _ _ _ _ e2) g.cW g.iW.ha g.iW.hn g.iW.ht g.iW.hm), g.iW.hk, kt_here k rfl⟩
        · exact ⟨_, _, _, _, true, rfl, .own _, .base (by subst e1; exact .ins (hid_ex _ _ _ _ e2) g.cR g.iR.ha g.iR.hn g.iR.ht g.iR.hm), g.iR.hk, kt_here k rfl⟩) (g.fr _ (by decide)) boot_isinstance hg (he := hs) (hpl := hpl)
variable {bk : Bk}
theorem je_ar (g : Gk X.K X.mg CB CW CR) (h : JE F X Γ a (bookV CB bk)) (hb : attributeBase a "arities" X.env (eval a X.env) = eval a X.env := by rfl) : JE F X Γ (.Attribute a "arities" pos) (vD (dTN bk.ar)) := je_fld h g.cB (g.nB _ (by decide)) rfl hb
theorem je_kn (g : Gk X.K X.mg CB CW CR) (h : JE F X Γ a (bookV CB bk)) (hb : attributeBase a "kinds" X.env (eval a X.env) = eval a X.env := by rfl) : JE F X Γ (.Attribute a "kinds" pos) (vN bk.kn) := je_fld h g.cB (g.nB _ (by decide)) rfl hb
theorem je_rus (g : Gk X.K X.mg CB CW CR) (h : JE F X Γ a (bookV CB bk)) (hb : attributeBase a "rules" X.env (eval a X.env) = eval a X.env := by rfl) : JE F X Γ (.Attribute a "rules" pos) (vD (rusD bk)) := je_fld h g.cB (g.nB _ (by decide)) rfl hb
theorem je_mvs (g : Gk X.K X.mg CB CW CR) (h : JE F X Γ a (bookV CB bk)) (hb : attributeBase a "moves" X.env (eval a X.env) = eval a X.env := by rfl) : JE F X Γ (.Attribute a "moves" pos) (vD (mvsD bk)) := je_fld h g.cB (g.nB _ (by decide)) rfl hb
end
theorem at_nat {β : Type} {l : List β} {n : Nat} {x : β} (h : l[n]? = some x) : atI l ((n : Nat) : Int) = some x := atI_nat h
theorem at_map {α β : Type} (f : α → β) {l : List α} {n : Nat} {x : α} (h : l[n]? = some x) : atI (l.map f) ((n : Nat) : Int) = some (f x) := atI_nat (by rw [List.getElem?_map, h]; rfl)
end Lk
end

section
set_option Elab.async false
set_option linter.all false
set_option maxRecDepth 100000
set_option maxHeartbeats 1000000
/-! More iteration: enumerate of a tuple, reversed, range downward. -/
namespace Lk
open PySem PySem.Spec L2
open PyProof.Rows hiding St
open Evl (Ex)
theorem meets_enum_tup (l : Addr) (items : Array Value) (n : Nat) (dct : Option Addr) (sl : Array (Option Value)) :
    Meets (Builtin.«enumerate.__new__» ⟨[.type "enumerate", .ref l], []⟩) (fun _ R s => s.heap.get? l = some { cls := .type "tuple", dict := dct, data := .seq items n, slots := sl } ∧
      R (.ok (.ret (.ref (s.heap.push { cls := .type "tuple_iterator", data := .fields #[.ref l, .int 0 0] }).objs.size)))
        { s with heap := (s.heap.push { cls := .type "tuple_iterator", data := .fields #[.ref l, .int 0 0] }).push { cls := .type "enumerate", data := .fields #[.none, .bool false, .ref s.heap.objs.size, rawInt 0, .none, .none] } }) :=
  .of_wp fun prog w A R s h => by
    obtain ⟨hp, g, d, tk, os⟩ := s
    obtain ⟨hl, h⟩ := h
    have hsub := sub_enumerate
    have hT : Heap.IsTuple (Shared.heap ⟨hp, g, d, tk, os⟩) l items := ⟨_, hl, rfl, n, rfl⟩
    wp_walk using AutoSeq1.wpAny_loadPart' hl
    refine wpAny_stack_any fun st => wpAny_pure ?_
    split
    · rename_i c _ _ _ _ _
      cases (c == Value.type "enumerate")
      · wp_walk using AutoSeq1.wpAny_loadPart' hl, wpAny_pyIter_tuple hT
        exact ⟨_, rfl, h⟩
      · wp_walk using AutoSeq1.wpAny_loadPart' hl, wpAny_pyIter_tuple hT
        exact ⟨_, rfl, h⟩
    · wp_walk using AutoSeq1.wpAny_loadPart' hl, wpAny_pyIter_tuple hT
      exact ⟨_, rfl, h⟩
section
variable {prog : Program} {w : World} {A : Around} {E : Value → Shared → Prop} {s : Shared}
theorem call_enum_tup {l : Addr} {items : Array Value} {Q : Value → Shared → Prop} (hL : s.heap.IsTuple l items)
    (h : ∀ h', IsEnum h' (s.heap.objs.size + 1) s.heap.objs.size 0 .none → h'.IsTupleIter s.heap.objs.size l 0 → (∀ b o, s.heap.get? b = some o → h'.get? b = some o) → Q (.ref (s.heap.objs.size + 1)) { s with heap := h' }) :
    wpAny (model prog w) A (call (.type "enumerate") [.ref l]) Q E s := by
  obtain ⟨⟨c, dct, dt, sl⟩, hl, hc, n, hd⟩ := hL
  have hc : c = .type "tuple" := hc
  have hd : dt = .seq items n := hd
  subst hc hd
  refine callType_new F.called_enumerate (by decide) (F.typeCall_enumerate_1 _) (F.newCall_enumerate_1 _) (fun obj => F.args_object_init_2 obj _) F.entry_enumerate_new (meets_enum_tup l items n dct sl) ⟨hl, ?_⟩
  have hz : (s.heap.push { cls := .type "tuple_iterator", data := .fields #[.ref l, .int 0 0] }).objs.size = s.heap.objs.size + 1 := Heap.size_push ..
  show _ ∧ _
  rw [hz]
  have he : IsEnum ((s.heap.push { cls := .type "tuple_iterator", data := .fields #[.ref l, .int 0 0] }).push { cls := .type "enumerate", data := .fields #[.none, .bool false, .ref s.heap.objs.size, rawInt 0, .none, .none] }) (s.heap.objs.size + 1) s.heap.objs.size 0 .none := by
    have := Heap.get?_push_size (s.heap.push { cls := .type "tuple_iterator", data := .fields #[.ref l, .int 0 0] }) (o := { cls := .type "enumerate", data := .fields #[.none, .bool false, .ref s.heap.objs.size, rawInt 0, .none, .none] }) rfl
    rw [hz] at this
    exact this
  exact ⟨⟨_, he, rfl⟩, h _ he ⟨_, Heap.get?_push_of_some _ (Heap.get?_push_size _ rfl), rfl, rfl⟩ fun b o x => Heap.get?_push_of_some _ (Heap.get?_push_of_some _ x)⟩
end
def ItEn (K : PySem.W.Frag) (a : Addr) : It :=
  ⟨fun i H => ∃ (xs : List V) (x : V), SqT K H a xs ∧ xs[i]? = some x, fun i H v H' => ∃ T x, v = .ref T ∧ H T = none ∧ H' = upd H T (.tup [.int (i : Nat), x]) ∧ ∀ xs, SqT K H a xs → xs[i]? = some x, fun i H => ∃ xs : List V, SqT K H a xs ∧ xs.length = i⟩
theorem turn_en {P : Program} {w : World} {K : PySem.W.Frag} {elts : List Expr} {kk : Nat} {tpos : Pos} (a e it : Addr) :
    Turn P w K (.Tuple elts kk tpos) (ItEn K a) [e, it] e (fun i h => (∃ old, IsEnum h e it ((i : Nat) : Int) old) ∧ h.IsTupleIter it a i ∧ e ≠ it ∧ a ≠ it ∧ a ≠ e) where
  mem := List.mem_cons_self ..
  obj := fun i h st b hb => by
    obtain ⟨⟨old, he⟩, ⟨o, ho, hc, hd⟩, _⟩ := st
    rcases List.mem_cons.mp hb with z | z
    · rw [z]; exact ⟨_, he, fun v q => nomatch q⟩
    · rw [List.mem_singleton.mp z]; exact ⟨o, ho, fun v q => by rw [hd] at q; cases q⟩
  keep := fun i h h' st k => (let ⟨⟨old, he⟩, hi, hne⟩ := st; ⟨⟨old, k e (List.mem_cons_self ..) _ he⟩, hi.at fun o q => k it (by simp) o q, hne⟩)
  item := by
    intro X hP hw hK hc i pins s σ H E I hf st hg
    subst hP hw hK
    obtain ⟨⟨old, he⟩, hit, hne, hna, hnb⟩ := st
    obtain ⟨xs, x, hq, hx⟩ := hg
    obtain ⟨its, rv, p, hz⟩ := I.tuple hq
    obtain ⟨u, hu, ru⟩ := rv.get hx
    have hel : e < s.heap.objs.size := Heap.lt_size he
    have hil : it < s.heap.objs.size := by obtain ⟨_, q, _⟩ := hit; exact Heap.lt_size q
    have hi' : i < its.toArray.size := by simpa using (List.getElem?_eq_some_iff.mp hu).1
    have hu' : its.toArray[i]? = some u := by simpa using hu
    refine wpAny_pyNext_enum_itemD (Draws.tuple (A := X.A.in1) (I.ok.hd hc) it a hna its.toArray) he ⟨hit, p⟩ hi' hne (by simp [hne, Ne.symm hnb]) fun y h' tk hy ho hit' hT hsz hk => ?_
    rw [hu'] at hy
    cases hy
    refine ⟨_, rfl, wpAny_letOwnedTupleGo_enum (s := { s with heap := h', toks := tk + 1 }) ho fun h'' he' sb => ?_⟩
    have hT2 : h''.get? s.heap.objs.size = some { cls := .type "tuple", data := .seq #[.int i tk, u] } := (sb.2 _ (Nat.ne_of_gt hel)).trans hT
    have new : ObjOk X.prog X.w (upd H s.heap.objs.size (.tup [.int (i : Nat), x])) h'' s.heap.objs.size (.tup [.int (i : Nat), x]) :=
      ⟨by show 2 ≤ sizeLine; decide, [.int i tk, u], .cons ⟨_, rfl⟩ (.cons ru .nil), ⟨_, hT2, rfl, _, rfl⟩⟩
    have I1 : Inv X pins σ (upd H s.heap.objs.size (.tup [.int (i : Nat), x])) { s with heap := h'', toks := tk + 1 } :=
      I.turnedNew (ch := [e, it]) (fun b ob hb q => (sb.2 b (fun z => hb (by simp [z]))).trans (hk b ob (fun z => hb (by simp [z])) (fun z => hb (by simp [z])) q)) hf (Nat.le_refl _) new
    refine ⟨.ref s.heap.objs.size, _, I1, rfl, ⟨_, x, rfl, I.hok.fresh (Nat.le_refl _), rfl, fun ys hy => by rw [I.tuple_inj hy hq]; exact hx⟩, ⟨⟨u, ?_⟩, hit'.1.at fun o q => (sb.2 it (Ne.symm hne)).trans q, hne, hna, hnb⟩, fun b hb => ?_⟩
    · rw [show ((i + 1 : Nat) : Int) = (i : Int) + 1 from by omega]; exact he'
    · have hb' : b < s.heap.objs.size := by
        rcases List.mem_cons.mp hb with z | z
        · rw [z]; exact hel
        · rw [List.mem_singleton.mp z]; exact hil
      rw [upd_ne (Nat.ne_of_lt hb')]
      exact (hf b hb).1
  done := by
    intro X hP hw hK hc i pins s σ H E I hf st hg
    subst hP hw hK
    obtain ⟨⟨old, he⟩, hit, hne, hna, hnb⟩ := st
    obtain ⟨xs, hq, hx⟩ := hg
    obtain ⟨its, rv, p, hz⟩ := I.tuple hq
    obtain ⟨f0, f1, f2, f3, f4, f5⟩ := hf it (by simp)
    have hl : i = its.toArray.size := by simpa using hx.symm.trans rv.length
    subst hl
    exact wpAny_pyNext_enum_endD (Draws.tuple (A := X.A.in1) (I.ok.hd hc) it a hna its.toArray) he ⟨hit, p⟩ fun h' eb => ⟨rfl, I.turned (t' := s.toks) (fun b o hb q => eb b o hb q) f0 f1 f3 f4 f5⟩
  self := fun A i s Q E st h => (let ⟨⟨_, he⟩, _⟩ := st; wpAny_pyIter_enum he h)
def iEn (K : PySem.W.Frag) (ta : TA) : TI := fun σ H R => ta σ H fun vs H1 => ∃ a xs, vs = [.ref a] ∧ SqT K H1 a xs ∧ R (ItEn K a) H1
theorem pi_en {X : Cx} {e : Expr} {ta : TA} {p pos tpos : Pos} {elts : List Expr} {kk : Nat} (hg : Gl X "enumerate") (hm : X.mg "enumerate" = none) (ha : PA X [e] ta) (hs : starEach [e] X.env = [(false, eval e X.env)]) :
    PI X (.Tuple elts kk tpos) (.Call (.Name "enumerate" p) [e] [] pos) (iEn X.K ta) := by
  refine ⟨fun pins s σ H R I h => ?_⟩
  refine Call_ (ld_blt I hg hm boot_enumerate (PyProof.Rows.callWith_type1 (thn (ha.run pos pins s σ H _ I h) fun us s1 ⟨vs, H1, I1, r1, q1⟩ => ?_) hs rfl))
  obtain ⟨a, xs, rfl, hq, q⟩ := q1
  obtain ⟨u, rfl, ru⟩ := vals1 r1
  cases ru
  obtain ⟨its, rv, p', hz⟩ := I1.tuple hq
  have hal : a < s1.heap.objs.size := p'.lt
  refine call_enum_tup p' fun h' he hit hk => wpAny_pyIter_enum he ?_
  have I2 : Inv X pins σ H1 { s1 with heap := h' } := I1.kept (t' := s1.toks) hk
  refine ⟨s1.heap.objs.size + 1, [s1.heap.objs.size + 1, s1.heap.objs.size], _, _, H1, rfl, I2, turn_en a (s1.heap.objs.size + 1) s1.heap.objs.size, ⟨⟨.none, he⟩, hit, Nat.succ_ne_self _, Nat.ne_of_lt hal, Nat.ne_of_lt (Nat.lt_succ_of_lt hal)⟩, fun b hb => ?_, q⟩
  have hle : s1.heap.objs.size ≤ b := by
    rcases List.mem_cons.mp hb with z | z
    · rw [z]; exact Nat.le_add_right _ _
    · rw [List.mem_singleton.mp z]; exact Nat.le_refl _
  exact I1.fpOk hle (I1.hok.fresh hle)
section
variable {F : Fm} {X : Cx} {Γ : Ct} {tg e : Expr} {Ps : List VP} {p pos tpos : Pos} {elts : List Expr} {kk : Nat}
theorem getD_get {α : Type _} {l : List α} {i : Nat} {x d : α} (h : l[i]? = some x) : l.getD i d = x := by rw [List.getD_eq_getElem?_getD, h]; rfl
theorem ji_en (hf : Free X.mg) (he : JE F X Γ e (vT Ps)) (hg : Gl X "enumerate" := by rfl) (hs : starEach [e] X.env = [(false, eval e X.env)] := by rfl) :
    JI F X Γ (.Tuple elts kk tpos) (.Call (.Name "enumerate" p) [e] [] pos) ((List.range Ps.length).map fun i => vT [vN i, Ps.getD i vNone]) := fun σ H R E k => oI_of (pi_en hg (hf _ (by decide)) pA hs) (ja1 he (hs.trans rfl) σ H _ E fun ws H1 s h => by
  cases h with
  | cons h1 h2 =>
    cases h2
    obtain ⟨a, vs, rfl, h2, h3⟩ := h1
    have hl : ((List.range Ps.length).map fun i => vT [vN i, Ps.getD i vNone]).length = Ps.length := by rw [List.length_map, List.length_range]
    refine ⟨a, vs, rfl, SqT.of (hid_ex _ _ _ _ h2), k _ (.ref a) ⟨fun _ K => K a = some (.tup vs) ∧ AllP Ps vs K, fun e h => ⟨e a _ h.1, h.2.mono e⟩⟩ H1 s ⟨h2, h3⟩ ⟨fun i H hi h => ?_, fun H h => ⟨vs, SqT.of h.1, by rw [hl, h.2.length]⟩, fun i H x H' S h hS hy P hP => ?_⟩⟩
    · rw [hl] at hi
      obtain ⟨x, hx, _⟩ := h.2.get (List.getElem?_eq_getElem hi)
      exact ⟨vs, x, SqT.of h.1, hx⟩
    · obtain ⟨T, y, rfl, hT, rfl, hx⟩ := hy
      rw [List.getElem?_map] at hP
      obtain ⟨j, e1, rfl⟩ := Option.map_eq_some_iff.mp hP
      obtain ⟨e2, e3⟩ := List.getElem?_eq_some_iff.mp e1
      rw [List.getElem_range] at e3
      subst e3
      rw [List.length_range] at e2
      obtain ⟨z, hz, pz⟩ := h.2.get (List.getElem?_eq_getElem e2)
      have := hx vs (SqT.of (hid_ex _ _ _ _ h.1))
      rw [hz] at this
      cases this
      have hST : S T = false := by
        cases q : S T with
        | false => rfl
        | true => exact absurd hT (hS T q)
      refine ⟨Ex.new hT, T, _, rfl, (hid_in hST).trans upd_same, .cons (vD_num.mpr rfl) (.cons ?_ .nil)⟩
      rw [getD_get (List.getElem?_eq_getElem e2)]
      exact VP.mono _ (ex_upd hT) pz)
theorem ji_enD {ds : List D} (hf : Free X.mg) (he : JE F X Γ e (vD (.tup ds))) (hg : Gl X "enumerate" := by rfl) (hs : starEach [e] X.env = [(false, eval e X.env)] := by rfl) :
    JI F X Γ (.Tuple elts kk tpos) (.Call (.Name "enumerate" p) [e] [] pos) ((List.range ds.length).map fun i => vT [vN i, vD (ds.getD i .none)]) := by
  refine ji_imp (ji_en hf (je_tD he) hg hs) ?_
  rw [List.length_map]
  apply List.map_congr_left
  intro i hi
  have hi := List.mem_range.mp hi
  rw [getD_get (d := vNone) (x := vD ds[i]) (by rw [List.getElem?_map, List.getElem?_eq_getElem hi]; rfl), getD_get (List.getElem?_eq_getElem hi)]
/-! reversed of a tuple -/
theorem ji_rev {ds : List D} (hf : Free X.mg) (he : JE F X Γ e (vD (.tup ds))) (hg : Gl X "reversed" := by rfl) (hs : starEach [e] X.env = (false, eval e X.env) :: starEach [] X.env := by rfl) :
    JI F X Γ tg (.Call (.Name "reversed" p) [e] [] pos) (ds.reverse.map vD) := fun σ H R E k => oI_of (RT.pi_revA hg (hf _ (by decide)) pE hs) (he σ H _ E fun v H1 s h => by
  obtain ⟨a, vs, rfl, h2, h3⟩ := im_tup.mp h
  have hl : vs.length = ds.length := h3.length
  refine ⟨a, vs, rfl, .inr ⟨SqT.of (hid_ex _ _ _ _ h2), k _ (.ref a) ⟨fun _ K => K a = some (.tup vs) ∧ ImAll ds vs K, fun e h => ⟨e a _ h.1, h.2.mono e⟩⟩ H1 s ⟨h2, h3⟩ ⟨fun i H hi h => ?_, fun H h => ?_, fun i H x H' S h hS hy P hP => ?_⟩⟩⟩
  · rw [List.length_map, List.length_reverse] at hi
    exact ⟨by omega, vs, vs[vs.length - 1 - i]'(by omega), SqT.of h.1, List.getElem?_eq_getElem _⟩
  · show vs.length ≤ _
    rw [List.length_map, List.length_reverse, hl]; exact Nat.le_refl _
  · obtain ⟨rfl, hx⟩ := hy
    rw [List.getElem?_map] at hP
    obtain ⟨d, e1, rfl⟩ := Option.map_eq_some_iff.mp hP
    have hi : i < ds.length := by have := (List.getElem?_eq_some_iff.mp e1).1; rw [List.length_reverse] at this; exact this
    rw [List.getElem?_reverse hi] at e1
    obtain ⟨y, hy, py⟩ := h.2.get e1
    have := hx vs (SqT.of (hid_ex _ _ _ _ h.1))
    rw [hl, hy] at this
    cases this
    exact ⟨Ex.refl _, py⟩)
/-! range down to 0 -/
theorem ji_down {a b c : Expr} {n : Nat} (hf : Free X.mg) (ha : JE F X Γ a (vN n)) (hb : JE F X Γ b (vZ (-1))) (hcc : JE F X Γ c (vZ (-1))) (hn : n ≤ 100000000 := by omega) (hg : Gl X "range" := by rfl)
    (hs : starEach [a, b, c] X.env = (false, eval a X.env) :: starEach [b, c] X.env := by rfl) (hs2 : starEach [b, c] X.env = (false, eval b X.env) :: starEach [c] X.env := by rfl) (hs3 : starEach [c] X.env = (false, eval c X.env) :: starEach [] X.env := by rfl)
    (hpl : (backTo pos (starEach [b, c] X.env)).any (·.1) = false := by rfl) : JI F X Γ tg (.Call (.Name "range" p) [a, b, c] [] pos) ((List.range (n + 1)).map fun i => vN (n - i)) := fun σ H R E k => oI_of (pi_range3 hg (hf _ (by decide)) pA hs hpl) (ja_cons ha (ja_cons hb (ja1 hcc hs3) hs2) hs σ H _ E fun vs H1 s h => by
  cases h with
  | cons h1 h2 =>
    cases h2 with
    | cons h2 h3 =>
      cases h3 with
      | cons h3 h4 =>
        cases h4
        cases vD_num.mp h1
        cases vD_num.mp h2
        cases vD_num.mp h3
        have rg := RgC.neg (i := (n : Int)) (j := -1) (by omega) (by omega) (by omega) (by omega)
        rw [show ((n : Int) - -1).toNat = n + 1 by omega] at rg
        refine ⟨n, -1, -1, n + 1, rfl, rg, k _ .non ⟨fun _ _ => True, fun _ _ => trivial⟩ H1 s trivial ⟨fun i H hi _ => by rw [List.length_map, List.length_range] at hi; exact hi, fun H _ => by rw [List.length_map, List.length_range]; exact Nat.le_refl _, fun i H x H' S _ _ hy P hP => ?_⟩⟩
        obtain ⟨rfl, rfl⟩ := hy
        rw [List.getElem?_map] at hP
        obtain ⟨j, e1, rfl⟩ := Option.map_eq_some_iff.mp hP
        obtain ⟨e2, e3⟩ := List.getElem?_eq_some_iff.mp e1
        rw [List.getElem_range] at e3
        subst e3
        rw [List.length_range] at e2
        exact ⟨Ex.refl _, vD_num.mpr (by congr 1; omega)⟩)
end
end Lk
end

section
set_option Elab.async false
set_option linter.all false
set_option maxRecDepth 100000
set_option maxHeartbeats 1000000
/-! Instances made; entries of dicts. -/
namespace Lk
open PySem PySem.Spec L2
open PyProof.Rows hiding St
open Evl (Ex)
/-! ### entries -/
section
variable {β γ : Type _}
theorem lk_none {l : List (D × β)} {k : D} : lk l k = none ↔ k ∉ l.map (·.1) := by
  induction l with
  | nil => simp [lk]
  | cons e l ih =>
    by_cases q : e.1 = k
    · have : lk (e :: l) k = some e.2 := by simp [lk, List.find?_cons, q]
      rw [this]; simp [q]
    · have : lk (e :: l) k = lk l k := by simp [lk, List.find?_cons, q]
      rw [this, ih]; simp [Ne.symm q]
theorem any_lk {l : List (D × β)} {k : D} : (l.any fun kv => decide (kv.1 = k)) = (lk l k).isSome := by
  induction l with
  | nil => rfl
  | cons e l ih =>
    by_cases q : e.1 = k
    · simp [lk, List.find?_cons, q]
    · rw [List.any_cons, ih]; simp [lk, List.find?_cons, q]
theorem putP_new {l : List (D × β)} {k : D} {v : β} (h : lk l k = none) : putP l k v = l ++ [(k, v)] := by
  unfold putP
  rw [any_lk, h]
  exact if_neg (fun z => nomatch z)
theorem lk_at {α : Type _} {f : α → D} (hf : ∀ x y, f x = f y → x = y) {g : α → β} {l : List α} {t : α} (h : t ∈ l) : lk (l.map fun x => (f x, g x)) (f t) = some (g t) := by
  induction l with
  | nil => exact nomatch h
  | cons a l ih =>
    by_cases q : f a = f t
    · have := hf _ _ q
      subst this
      simp [lk, List.find?_cons]
    · have e : lk ((a :: l).map fun x => (f x, g x)) (f t) = lk (l.map fun x => (f x, g x)) (f t) := by simp [lk, List.find?_cons, q]
      rw [e]
      exact ih ((List.mem_cons.mp h).resolve_left fun z => q (by rw [z]))
theorem lk_out {α : Type _} {f : α → D} (hf : ∀ x y, f x = f y → x = y) {g : α → β} {l : List α} {t : α} (h : t ∉ l) : lk (l.map fun x => (f x, g x)) (f t) = none := by
  rw [lk_none, List.map_map]
  intro z
  obtain ⟨x, hx, e⟩ := List.mem_map.mp z
  exact h (hf _ _ e ▸ hx)
theorem lk_app_new {l : List (D × β)} {k j : D} {v : β} : lk (l ++ [(k, v)]) j = (lk l j).or (if k = j then some v else none) := by
  unfold lk
  rw [List.find?_append]
  cases l.find? fun kv => decide (kv.1 = j) with
  | some x => rfl
  | none =>
    by_cases q : k = j
    · simp [List.find?_cons, q]
    · simp [List.find?_cons, q]
end
theorem js_skipB {F : Fm} {X : Cx} {Γ : Ct} {c : Expr} {body rest : List Stmt} {pos : Pos} {D : PD} {k : Bool} (hc : JT F X Γ c (· = k)) (hk : k = false) (q : JS F X Γ rest D) : JS F X Γ (.If c body [] pos :: rest) D := js_skip (jt_imp hc fun b h => h.trans hk) q

theorem jn_dict {F : Fm} {X : Cx} {Γ : Ct} {pos : Pos} : JN F X Γ (.Dict [] [] pos) (oX X.prog X.w []) := jn_of (pe_dxnew' (X := X)) fun σ H Q E k => fun p H' hp ex hd => k p H' (E.ex ex) hp (by
  obtain ⟨a, es, ep, xs, e, ha, hs, hl, hh, hn, hk⟩ := hd
  cases e
  cases hk
  exact ⟨[], ⟨es, ep, [], ha, hs, hl, hh, hn, .nil⟩, .nil⟩)
/-! known answers of «in» -/
section
variable {F : Fm} {X : Cx} {Γ : Ct} {pos : Pos} {a b : Expr} {Pb : VP} {n : Nat} {ps : List (D × VP)} {k : D} {r : Bool}
theorem jt_in (hr : Room n X.A) (rd : RdX F X.prog X.w Γ Pb ps) (ha : JE F X Γ a (vD k)) (hb : JE F X Γ b Pb) (hk : (lk ps k).isSome = r) (h8 : k.depth ≤ 8) (ht : isT k = true := by rfl) (hm : behindInMarks .In b = false := by rfl) : JT F X Γ (.Compare a [.In] [b] pos) (· = r) := jt_imp (jt_inX hr rd ha hb ht h8 hm) fun _ h => h.trans hk
theorem jt_notIn (hr : Room n X.A) (rd : RdX F X.prog X.w Γ Pb ps) (ha : JE F X Γ a (vD k)) (hb : JE F X Γ b Pb) (hk : (!(lk ps k).isSome) = r) (h8 : k.depth ≤ 8) (ht : isT k = true := by rfl) (hm : behindInMarks .NotIn b = false := by rfl) : JT F X Γ (.Compare a [.NotIn] [b] pos) (· = r) := jt_imp (jt_notInX hr rd ha hb ht h8 hm) fun _ h => h.trans hk
theorem je_in (hr : Room n X.A) (rd : RdX F X.prog X.w Γ Pb ps) (ha : JE F X Γ a (vD k)) (hb : JE F X Γ b Pb) (hk : (lk ps k).isSome = r) (h8 : k.depth ≤ 8) (ht : isT k = true := by rfl) (hm : behindInMarks .In b = false := by rfl) : JE F X Γ (.Compare a [.In] [b] pos) (vB r) := by
  have := je_inX (F := F) (Γ := Γ) (pos := pos) hr rd ha hb ht h8 hm
  rw [hk] at this
  exact this
theorem je_notIn (hr : Room n X.A) (rd : RdX F X.prog X.w Γ Pb ps) (ha : JE F X Γ a (vD k)) (hb : JE F X Γ b Pb) (hk : (!(lk ps k).isSome) = r) (h8 : k.depth ≤ 8) (ht : isT k = true := by rfl) (hm : behindInMarks .NotIn b = false := by rfl) : JE F X Γ (.Compare a [.NotIn] [b] pos) (vB r) := by
  have := je_notInX (F := F) (Γ := Γ) (pos := pos) hr rd ha hb ht h8 hm
  rw [hk] at this
  exact this
end
theorem jt_chainI {F : Fm} {X : Cx} {Γ : Ct} {pos : Pos} {a b c : Expr} {i j l : Int} {op op' : CmpOp} {f g : Int → Int → Bool} (ho : OpR X (compareOp op) (rI0 fun i j => .bl (f i j))) (ho' : OpR X (compareOp op') (rI0 fun i j => .bl (g i j))) (ha : JE F X Γ a (vZ i)) (hb : JE F X Γ b (vZ j)) (hc : JE F X Γ c (vZ l))
    (hm : lastMarks [op, op'] [b, c] = false := by with_unfolding_all rfl) : JT F X Γ (.Compare a [op, op'] [b, c] pos) (· = (f i j && g j l)) :=
  jt_of (pt_chain ho ho' pE pE pE hm) (rt_test (k := f i j && g j l) fun σ H Q E q => ha σ H _ E fun x H1 s1 p1 => hb σ H1 _ (E.go s1) fun y H2 s2 p2 => ⟨i, j, vD_num.mp p1, vD_num.mp p2, f i j, rfl, by
    cases z : f i j with
    | true =>
      rw [if_pos rfl]
      exact hc σ H2 _ (E.go (s1.trans s2)) fun w H3 s3 p3 => ⟨j, l, vD_num.mp p2, vD_num.mp p3, q _ H3 ((s1.trans s2).trans s3) (by rw [z, Bool.true_and]; rfl)⟩
    | false => rw [if_neg (fun z => nomatch z)]; exact q _ H2 (s1.trans s2) (by rw [z, Bool.false_and]; rfl)⟩)
/-! ### instances -/
section
variable {F : Fm} {X : Cx} {Γ : Ct} {pos pos' p : Pos} {e o : Expr} {es : List Expr} {rest : List Stmt} {P : VP} {D : PD}
theorem FP.len {ps : List (Str × VP)} {vs : List (Str × V)} {H : Hp} (h : FP ps vs H) : vs.length = ps.length := by
  induction h with
  | nil => rfl
  | cons h t ih => rw [List.length_cons, List.length_cons, ih]
theorem js_fld {C dx x : Addr} {fs : List (Str × VP)} {f : Str} (j : Nat) (he : JE F X Γ e P) (ho : JE F X Γ o (vE (.ref x))) (hC : Cls X.K C) (hn : NoAttr X.K C f) (q : JS F X { Γ with own := Γ.own.set j (x, oIns C dx (putFP f P fs)) } rest D) (hj : Γ.own[j]? = some (x, oIns C dx fs) := by rfl) (hl : Nat.ble fs.length 999 = true := by rfl)
    (hs : swapsWith e (some (.Attribute o f pos')) pos.line X.env = pure false := by rfl) : JS F X Γ (.Assign [.Attribute o f pos'] e pos :: rest) D :=
  js_st (ps_fld pE pE hs) fun σ H E g1 g2 => he σ H _ g1 fun v H1 s1 p1 => ho σ H1 _ (g1.go s1) fun ov H2 s2 p2 => by
    have E2 := (g1.go s1).go s2
    cases (show ov = .ref x from p2)
    obtain ⟨vs, d1, d2, d3⟩ := own_at E2 hj
    refine ⟨x, C, dx, vs, rfl, d1, hC, hn, by rw [d3]; exact Nat.lt_succ_of_le (Nat.le_of_ble_eq_true hl), ?_⟩
    have hp := d2.put (f := f) (P.mono s2.ex p1)
    exact q σ _ E (E2.setOwn hj (fun b hb => upd_ne hb) ⟨_, upd_same, hp, hp.len⟩) g2
def mkIn {α : Type} (C : Addr) (pre : α → Prop) (Ps : α → List VP) (R : α → VP) : Sp := fun vs H Q _ => ∃ (T : Th) (S : Addr → Bool) (a : α) (H1 : Hp) (x dx : Addr) (ws : List V), (∀ b, T.reg b = true → S b = true) ∧ (∀ b, S b = true → H1 b ≠ none) ∧ T.ok H1 ∧ pre a ∧
  vs = .ref x :: ws ∧ AllP (Ps a) ws (hid S H1) ∧ H1 x = none ∧ H1 dx = none ∧ dx ≠ x ∧ H = upd (upd H1 dx (.own x)) x (.ins C dx []) ∧ ∀ H', Step T S H1 H' → (R a).p (.ref x) (hid S H') → Q .non H'
def Fi (P : Program) (w : World) (K : PySem.W.Frag) (mg : Str → Option Value) (base : Heap) (k : Nat) (C : Addr) (sp : Sp) : Prop := ∃ (f : Addr) (fd : FuncData) (ps : List Str), FnOk P w K mg base CX0 k f fd ps sp ∧ L2.Mk K C f ∧ Binds K fd ps []
theorem je_make {C : Addr} {k : Nat} {α : Type} {pre : α → Prop} {Pf : α → List VP} {R : α → VP} {x : Str} (c : Fi X.prog X.w X.K X.mg X.base k C (mkIn C pre Pf R)) (hr : Room (k + 1) X.A) (hm : X.mg x = some (.ref C)) (a : α) (hp : pre a) (ha : JA F X Γ (e :: es) (Pf a)) (hg : Gl X x := by rfl) (hdb : (x == ("__debug__" : Str)) = false := by decide)
    (he : starEach (e :: es) X.env = (false, eval e X.env) :: starEach es X.env := by rfl) (hpl : (backTo pos (starEach es X.env)).any (·.1) = false := by rfl) : JE F X Γ (.Call (.Name x p) (e :: es) [] pos) (R a) := fun σ H Q E kk => by
  obtain ⟨f, fd, ps, Fk, hM, hb⟩ := c
  refine oE_of (pe_make (E := E0) hM Fk hr hg hm hb .nil (fun _ _ _ _ _ _ _ h => h.elim) pA hdb he hpl) (ha σ H _ E fun vs H1 s ps => fun y dx h1 h2 h3 => ?_)
  have E1 := E.go s
  exact ⟨F.T, F.S Γ.own, a, H1, y, dx, vs, F.regS _, fun b q => E1.hdom q, E1.ok, hp, by rw [List.append_nil], ps, h1, h2, h3, rfl, fun H' s2 h => ⟨rfl, kk _ H' (s.trans s2) h⟩⟩
end
section
variable {P : Program} {w : World} {K : PySem.W.Frag} {mg : Str → Option Value} {base : Heap} {x qual : Str} {params : Arguments} {body : List Stmt} {scope : Scope} {f C : Addr} {fd : FuncData} {N ps : List Str} {k : Nat} {α : Type} {pre : α → Prop} {Pf : α → List VP} {R : α → VP}
theorem fi_of (F : FunD K x qual params body scope [] [] f fd) (hM : L2.Mk K C f) (S : FnScope N ps scope) (hb : Binds K fd ps []) (hl : ∀ a, (Pf a).length + 1 = ps.length)
    (h : ∀ (a : α) (Fr : Fm) (cdv : Value) (A : Around) (outer : List PySem.Env) (s : Shared) (H : Hp) (E : XK) (z dx : Addr), Room k (cxOf CX0 P w K mg base N qual scope f cdv A outer s H E).nox.A → pre a →
      JS Fr (cxOf CX0 P w K mg base N qual scope f cdv A outer s H E).nox ⟨startI N (vE (.ref z) :: Pf a), [(z, oIns C dx [])], []⟩ body { nx := fun Γ => ∃ O : OP, Γ.own = [(z, O)] ∧ ∀ K, O.vp.p (.ref z) K → (R a).p (.ref z) K, rt := ⟨fun _ _ => False, fun _ h => h⟩ }) : Fi P w K mg base (k + 1) C (mkIn C pre Pf R) := by
  refine ⟨f, fd, ps, F.ok S (fun vs H Q E ⟨T, S, a, H1, x, dx, ws, _, _, _, _, e, h4, _⟩ => by rw [e, List.length_cons, h4.length, hl]) (fun cdv A outer s H vs Q E hr ⟨T, S', a, H1, z, dx, ws, h1, h2, h3, h4, h5, h6, h7, h8, h9, h10, h11⟩ => ⟨oSs _ body, PSs.nox pSs, ?_⟩), hM, hb⟩
  have := h a ⟨T, S', H1, h1, h2⟩ cdv A outer s H E z dx hr h4
  subst h5
  have hx : ∀ b, H1 b ≠ none → H b = H1 b := fun b hb => by
    rw [h10, upd_ne (fun z => by subst z; exact hb h7), upd_ne (fun z => by subst z; exact hb h8)]
  have ex : Ex H1 H := fun b o e => by rw [hx b (by rw [e]; exact fun z => nomatch z)]; exact e
  have sz : S' z = false := by
    cases q : S' z with
    | false => rfl
    | true => exact absurd h7 (h2 z q)
  have st : Step T S' H1 H := by
    refine ⟨fun b o e => ?_, fun b q _ => hx b (h2 b q), fun h => T.loc (fun b q => hx b (h2 b (h1 b q))) h⟩
    cases q : S' b with
    | true => rw [hid_out q] at e; cases e
    | false => rw [hid_in q] at e ⊢; exact ex b o e
  have vx : Ex (hid S' H1) (hid (Fm.S ⟨T, S', H1, h1, h2⟩ [(z, oIns C dx [])]) H) := fun b o e => by
    have hb : S' b = false := by
      cases q : S' b with
      | false => rfl
      | true => rw [hid_out q] at e; cases e
    rw [hid_in hb] at e
    rw [hid_in]
    · exact ex b o e
    · cases q : Fm.S ⟨T, S', H1, h1, h2⟩ [(z, oIns C dx [])] b with
      | false => rfl
      | true =>
        rcases Fm.S_or.mp q with q | q
        · rw [show S' b = true from q] at hb; cases hb
        · have : b = z := by simpa using q
          subst this
          rw [h7] at e; cases e
  have all : AllP (vE (.ref z) :: Pf a) (.ref z :: ws) (hid (Fm.S ⟨T, S', H1, h1, h2⟩ [(z, oIns C dx [])]) H) := .cons rfl (h6.mono vx)
  have hlen := all.length
  refine this (L2.start N (.ref z :: ws)) H { nx := fun _ H' => Q .non H', rt := Q } ⟨st, st.ok h3, fun e he => ?_, fun e he => ?_, by simp, fun i P' e => ?_, ?_, fun e he => (nomatch he)⟩ ⟨fun Γ σ H' ⟨O, z1, z2⟩ Ee => ?_, fun _ _ _ z => z.elim, fun _ _ _ z => z.elim, fun v H' st z => z.elim⟩
  · rw [List.mem_singleton.mp he]; exact h7
  · rw [List.mem_singleton.mp he]
    exact ⟨[], by rw [h10]; exact upd_same, .nil, rfl⟩
  · obtain ⟨v, g1, g2⟩ := all_start (n := N.length - (vE (.ref z) :: Pf a).length) all i P' e
    refine ⟨v, ?_, g2⟩
    unfold L2.start; rw [hlen]; exact g1
  · unfold L2.start startI
    rw [List.length_append, List.length_append, List.length_map, List.length_map, hlen, List.length_replicate, List.length_replicate]
  · obtain ⟨im, ow, fx⟩ := Γ
    simp only at z1
    subst z1
    have := Ee.shown (j := 0) rfl
    refine h11 H' Ee.step (z2 _ ?_)
    have e2 : hid S' H' = hid (Fm.S ⟨T, S', H1, h1, h2⟩ []) H' := by
      congr 1
      funext b
      exact (Bool.or_false _).symm
    rw [e2]
    exact this
end
end Lk
end

section
set_option Elab.async false
set_option linter.all false
set_option maxRecDepth 100000
set_option maxHeartbeats 1000000
/-! Judgements for conversions, comprehensions of dicts, methods. -/
namespace Lk
open PySem PySem.Spec L2
open PyProof.Rows hiding St
open Evl (Ex)
/-! ### a dict read where its keys stay in view -/
section
variable {F : Fm} {Γ : Ct} {P : Program} {w : World}
def RdY (F : Fm) (P : Program) (w : World) (Γ : Ct) (Pv : VP) (ps : List (D × VP)) : Prop := ∀ (σ : L2.St) (H : Hp) (v : V), Env F Γ σ H → Pv.p v (F.vw Γ H) → ∃ a kvs, v = .ref a ∧ DX2 P w kvs a (F.vw Γ H) H ∧ PX ps kvs (F.vw Γ H)
theorem rdy (ps : List (D × VP)) : RdY F P w Γ (vX P w ps) ps := fun σ H v E ⟨a, kvs, h1, h2, h3⟩ => ⟨a, kvs, h1, h2.stay (by
    obtain ⟨es, ep, xs, ha, _⟩ := h2
    exact (hid_ex _ _ a _ ha).trans ha.symm) (Ex.refl _), h3⟩
theorem rdyO {p : Addr} {ps : List (D × VP)} (j : Nat) (h : Γ.own[j]? = some (p, oX P w ps) := by rfl) : RdY F P w Γ (vE (.ref p)) ps := fun σ H v E hv => by
  obtain ⟨kvs, h1, h2⟩ := own_at E h
  exact ⟨p, kvs, hv, h1, h2⟩
theorem RdY.x {Pv : VP} {ps : List (D × VP)} (h : RdY F P w Γ Pv ps) : RdX F P w Γ Pv ps := fun σ H v E hv => (let ⟨a, kvs, e, h1, h2⟩ := h σ H v E hv; ⟨kvs, e ▸ h1.dx (hid_ex _ _), h2⟩)
end
theorem all_D {ds : List D} {vs : List V} {K : Hp} (h : ImAll ds vs K) : AllP (ds.map vD) vs K := allP_D.mpr h
section
variable {F : Fm} {X : Cx} {Γ : Ct} {p pos p2 pos2 : Pos} {e a b : Expr} {es : List Expr} {P : VP} {ps : List (D × VP)} {n : Nat}
theorem u128 (hr : Room n X.A) : X.A.units + 128 < cLine := by have := hr.un; omega
theorem jn_listX (hc : X.calm = true) (hf : Free X.mg) (rd : RdY F X.prog X.w Γ P ps) (he : JE F X Γ e P) (hg : Gl X "list" := by rfl) (hs : starEach [e] X.env = (false, eval e X.env) :: starEach [] X.env := by rfl) : JN F X Γ (.Call (.Name "list" p) [e] [] pos) (oL (ps.map fun q => vD q.1)) :=
  jn_callT (call_listX hc) (ja1 he hs) (fun σ H xs Q E h k => by
    cases h with
    | cons h1 h2 =>
      cases h2
      obtain ⟨q, kvs, rfl, hd, hp⟩ := rd σ H _ E h1
      exact ⟨q, kvs, _, rfl, hid_ex _ _, hd, fun l vs hl hv => k l _ (E.ex (Ex.new hl)) hl ⟨vs, upd_same, by
        rw [hp.keys] at hv
        have := (all_D hv).mono (view_add (O := oL (ps.map fun q => vD q.1)) hl (ex_upd (o := .lst vs) hl))
        rw [List.map_map] at this
        exact this⟩⟩) (hf _ (by decide)) boot_list hg (he := hs)
theorem je_tupX (hc : X.calm = true) (hf : Free X.mg) (rd : RdY F X.prog X.w Γ P ps) (he : JE F X Γ e P) (hg : Gl X "tuple" := by rfl) (hs : starEach [e] X.env = (false, eval e X.env) :: starEach [] X.env := by rfl) : JE F X Γ (.Call (.Name "tuple" p) [e] [] pos) (vD (.tup (ps.map (·.1)))) :=
  je_callT (call_tupX hc) (ja1 he hs) (fun σ H xs Q E h k => by
    cases h with
    | cons h1 h2 =>
      cases h2
      obtain ⟨q, kvs, rfl, hd, hp⟩ := rd σ H _ E h1
      exact ⟨q, kvs, _, rfl, hid_ex _ _, hd, fun l vs hl hv => k _ _ (E.ex (Ex.new hl)) (im_tup.mpr ⟨l, vs, rfl, vw_upd E hl, by
        rw [hp.keys] at hv
        exact hv.mono (E.ex (Ex.new hl)).ex⟩)⟩) (hf _ (by decide)) boot_tuple hg (he := hs)
theorem jn_sortX {ts : List Thg} (hc : X.calm = true) (hr : Room n X.A) (hf : Free X.mg) (rd : RdY F X.prog X.w Γ P ps) (he : JE F X Γ e P) (hk : ps.map (·.1) = ts.map encT) (hg : Gl X "sorted" := by rfl) (hs : starEach [e] X.env = (false, eval e X.env) :: starEach [] X.env := by rfl) : JN F X Γ (.Call (.Name "sorted" p) [e] [] pos) (oL ((srt ts).map fun t => vD (encT t))) :=
  jn_callB (call_sortX hc (u128 hr)) (ja1 he hs) (fun σ H xs Q E h k => by
    cases h with
    | cons h1 h2 =>
      cases h2
      obtain ⟨q, kvs, rfl, hd, hp⟩ := rd σ H _ E h1
      refine ⟨q, kvs, ts, _, rfl, hid_ex _ _, hd, by rw [hp.keys]; exact hk, fun l vs hl hv => k l _ (E.ex (Ex.new hl)) hl ⟨vs, upd_same, ?_⟩⟩
      have := (all_D hv).mono (view_add (O := oL ((srt ts).map fun t => vD (encT t))) hl (ex_upd (o := .lst vs) hl))
      rw [List.map_map] at this
      exact this) (hf _ (by decide)) boot_sorted hg (he := hs)
theorem jn_sortL {ts : List Thg} (hr : Room n X.A) (hf : Free X.mg) (rd : RdL F Γ P (ts.map fun t => vD (encT t))) (he : JE F X Γ e P) (hg : Gl X "sorted" := by rfl) (hs : starEach [e] X.env = (false, eval e X.env) :: starEach [] X.env := by rfl) : JN F X Γ (.Call (.Name "sorted" p) [e] [] pos) (oL ((srt ts).map fun t => vD (encT t))) :=
  jn_callB (call_sortL (u128 hr)) (ja1 he hs) (fun σ H xs Q E h k => by
    cases h with
    | cons h1 h2 =>
      cases h2
      obtain ⟨q, ws, rfl, hq, hv⟩ := rd σ H _ E h1
      refine ⟨q, ws, ts, _, rfl, hid_ex _ _, hq, allP_D.mp (by rw [List.map_map]; exact hv), fun l vs hl hv => k l _ (E.ex (Ex.new hl)) hl ⟨vs, upd_same, ?_⟩⟩
      have := (all_D hv).mono (view_add (O := oL ((srt ts).map fun t => vD (encT t))) hl (ex_upd (o := .lst vs) hl))
      rw [List.map_map] at this
      exact this) (hf _ (by decide)) boot_sorted hg (he := hs)
/-- the least: some member that no other is below -/
theorem je_min {d : D} {ds : List D} (hc : X.calm = true) (hr : Room n X.A) (hf : Free X.mg) (he : JE F X Γ e (vL ((d :: ds).map vD))) (hal : PySem.W.AlikeAll ((d :: ds).map NestedKey.data)) (h8 : ∀ x ∈ d :: ds, x.depth ≤ 60) {m : D} (hm : ∀ x ∈ d :: ds, x.data = PySem.W.minD d.data (ds.map NestedKey.data) → x = m)
    (hg : Gl X "min" := by rfl) (hs : starEach [e] X.env = (false, eval e X.env) :: starEach [] X.env := by rfl) : JE F X Γ (.Call (.Name "min" p) [e] [] pos) (vD m) :=
  je_callB (call_minD hc (u128 hr)) (ja1 he hs) (fun σ H xs Q E h k => by
    cases h with
    | cons h1 h2 =>
      cases h2
      obtain ⟨q, ws, rfl, hq, hv⟩ := h1
      exact ⟨q, ws, d, ds, _, rfl, hid_ex _ _, hid_ex _ _ _ _ hq, allP_D.mp hv, hal, h8, fun x v hx e1 hv => kt_here k (by rw [← hm x hx e1]; exact hv)⟩) (hf _ (by decide)) boot_min hg (he := hs)
/-- list(zip(t, u)) -/
theorem jn_zip {ds es : List D} (hc : X.calm = true) (hf : Free X.mg) (ha : JE F X Γ a (vD (.tup ds))) (hb : JE F X Γ b (vD (.tup es))) (hl : ds.length = es.length) (hg : Gl X "list" := by rfl) (hg2 : Gl X "zip" := by rfl)
    (hs : starEach [.Call (.Name "zip" p2) [a, b] [] pos2] X.env = (false, eval (.Call (.Name "zip" p2) [a, b] [] pos2) X.env) :: starEach [] X.env := by rfl) (hs2 : starEach [a, b] X.env = (false, eval a X.env) :: starEach [b] X.env := by rfl) (hs3 : starEach [b] X.env = (false, eval b X.env) :: starEach [] X.env := by rfl) (hpl : (backTo pos2 (starEach [b] X.env)).any (·.1) = false := by rfl) :
    JN F X Γ (.Call (.Name "list" p) [.Call (.Name "zip" p2) [a, b] [] pos2] [] pos) (oL ((ds.zip es).map fun q => vD (.tup [q.1, q.2]))) :=
  jn_of (pe_lz hc (hf _ (by decide)) (hf _ (by decide)) pA hg hg2 hs hs2 hpl) fun σ H Q E k => ja_cons ha (ja1 hb hs3) hs2 σ H _ E fun vs H1 s1 h => by
    have E1 := E.go s1
    cases h with
    | cons h1 h2 =>
      cases h2 with
      | cons h2 h3 =>
        cases h3
        obtain ⟨x, xs, rfl, hx, hxs⟩ := im_tup.mp h1
        obtain ⟨y, ys, rfl, hy, hys⟩ := im_tup.mp h2
        refine ⟨x, y, xs, ys, rfl, SqT.of (hid_ex _ _ _ _ hx), SqT.of (hid_ex _ _ _ _ hy), by rw [hxs.length, hys.length]; exact hl, fun q ts H2 hq ex hql htl hts => ?_⟩
        have s2 := E1.ex ex
        refine k q H2 (s1.trans s2) (none_back E s1 hq) ⟨ts.map V.ref, hql, ?_⟩
        have vx : Ex (F.vw Γ H1) (hid (F.S (Γ.own ++ [(q, oL ((ds.zip es).map fun q => vD (.tup [q.1, q.2])))])) H2) := view_add hq s2.ex
        have hxs' := hxs.mono vx
        have hys' := hys.mono vx
        have zl : (ds.zip es).length = ts.length := by rw [List.length_zip, ← hl, Nat.min_self, htl, hxs.length]
        have : ImAll ((ds.zip es).map fun q => (NestedKey.tup [q.1, q.2] : D)) (ts.map V.ref) (hid (F.S (Γ.own ++ [(q, oL ((ds.zip es).map fun q => vD (.tup [q.1, q.2])))])) H2) := by
          refine ImAll.of_get (by rw [List.length_map, List.length_map, zl]) fun i d v hd hv => ?_
          rw [List.getElem?_map] at hd hv
          obtain ⟨z, hz, rfl⟩ := Option.map_eq_some_iff.mp hd
          obtain ⟨t, ht, rfl⟩ := Option.map_eq_some_iff.mp hv
          obtain ⟨z1, z2⟩ := List.getElem?_zip_eq_some.mp hz
          obtain ⟨n1, n2, u, v, e1, e2, e3⟩ := hts i t ht
          obtain ⟨u', f1, f2⟩ := hxs'.get z1
          obtain ⟨v', g1, g2⟩ := hys'.get z2
          rw [e1] at f1
          rw [e2] at g1
          cases f1
          cases g1
          refine im_tup.mpr ⟨t, [u, v], rfl, ?_, imAll_cons.mpr ⟨u, [v], rfl, f2, imAll_cons.mpr ⟨v, [], rfl, g2, imAll_nil.mpr rfl⟩⟩⟩
          refine (hid_in ?_).trans e3
          cases q3 : F.S (Γ.own ++ [(q, oL ((ds.zip es).map fun q => vD (.tup [q.1, q.2])))]) t with
          | false => rfl
          | true =>
            rcases S_add.mp q3 with q4 | q4
            · exact absurd n1 (E1.hdom q4)
            · exact absurd q4 n2
        have := all_D this
        rw [List.map_map] at this
        exact this
/-- they hold the same -/
theorem je_neX {qs : List (D × VP)} {Pa Pb : VP} (hr : Room n X.A) (ra : RdX F X.prog X.w Γ Pa ps) (rb : RdX F X.prog X.w Γ Pb qs) (ha : JE F X Γ a Pa) (hb : JE F X Γ b Pb) (hl : ps.length = qs.length) (hq : ∀ k Q, (k, Q) ∈ ps → ∃ d, Q = vD d ∧ (k, vD d) ∈ qs ∧ fine d = true) (nd : (qs.map (·.1)).Nodup) : JE F X Γ (.Compare a [.NotEq] [b] pos) (vB false) :=
  je_cmp (op_neX (u128 hr)) ha hb fun σ H x y Q E hx hy k => by
    obtain ⟨ks, dx, px⟩ := ra σ H x E hx
    obtain ⟨ls, dy, py⟩ := rb σ H y E hy
    refine ⟨ks, ls, dx, dy, by rw [px.length, py.length, hl], fun kk v hv => ?_, kt_here k rfl⟩
    obtain ⟨i, hi⟩ := List.getElem?_of_mem hv
    obtain ⟨PP, h1, h2⟩ := px.get hi
    obtain ⟨d, rfl, hm, hf⟩ := hq kk PP (List.mem_of_getElem? h1)
    obtain ⟨j, hj⟩ := List.getElem?_of_mem hm
    have lj : j < ls.length := by rw [py.length]; exact (List.getElem?_eq_some_iff.mp hj).1
    obtain ⟨⟨k2, v2⟩, h3⟩ : ∃ z, ls[j]? = some z := ⟨_, List.getElem?_eq_getElem lj⟩
    obtain ⟨P2, h4, h5⟩ := py.get h3
    rw [hj] at h4
    cases h4
    exact ⟨v2, d, List.mem_of_getElem? h3, Im.mono h2 (hid_ex _ _), Im.mono h5 (hid_ex _ _), hf⟩
end

/-! ### comprehensions that make dicts -/
section
variable {F : Fm} {X : Cx} {Γ : Ct} {tg iter kx vx : Expr} {ifs : List Expr} {scope : Scope} {pos : Pos} {α : Type} {n : Nat}
def JEnt (F : Fm) (X : Cx) (scope : Scope) (Γc : Ct) (tg : Expr) (ifs : List Expr) (kx vx : Expr) (vs : List Nat) (P : VP) (b : Bool) (k : D) (R : VP) : Prop :=
  ∃ Γ2 js, (∀ i ∈ js, i ∈ vs) ∧ Γ2.own = Γc.own ∧ ∀ (s : Shared) (H0 : Hp) (C : Addr) (cl : List (Str × Addr)) (fp : List Addr), JG F (cmpX X scope s H0 C cl fp) Γc tg js P Γ2 ∧ JTs F (cmpX X scope s H0 C cl fp) Γ2 ifs (· = b) ∧ (b = true → JE F (cmpX X scope s H0 C cl fp) Γ2 kx (vD k) ∧ JE F (cmpX X scope s H0 C cl fp) Γ2 vx R)
theorem jent1 {ifs : List Expr} {vs : List Nat} {P R : VP} {b : Bool} {k : D} {p : Pos} (i : Nat) {x : Str} (hN : X.N.Nodup) (h : ∀ (s : Shared) (H0 : Hp) (C : Addr) (cl : List (Str × Addr)) (fp : List Addr), JTs F (cmpX X scope s H0 C cl fp) (Γ.put i P) ifs (· = b) ∧ (b = true → JE F (cmpX X scope s H0 C cl fp) (Γ.put i P) kx (vD k) ∧ JE F (cmpX X scope s H0 C cl fp) (Γ.put i P) vx R))
    (hj : i ∈ vs := by decide) (hi : X.N[i]? = some x := by rfl) (hx : ∀ (s : Shared) (H0 : Hp) (C : Addr) (cl : List (Str × Addr)) (fp : List Addr), Loc (cmpX X scope s H0 C cl fp).env.scope x := by intros; first | exact .inl rfl | exact .inr rfl)
    (hf : ∀ (s : Shared) (H0 : Hp) (C : Addr) (cl : List (Str × Addr)) (fp : List Addr), (cmpX X scope s H0 C cl fp).fn x = true ∨ (cmpX X scope s H0 C cl fp).env.scope.names.lookup x = some .local := by intros; first | exact .inl rfl | exact .inr rfl) :
    JEnt F X scope Γ (.Name x p) ifs kx vx vs P b k R :=
  ⟨Γ.put i P, [i], fun j h => by rw [List.mem_singleton.mp h]; exact hj, rfl, fun s H0 C cl fp => ⟨jg_name (X := cmpX X scope s H0 C cl fp) i hN hi (hx s H0 C cl fp) (hf s H0 C cl fp), h s H0 C cl fp⟩⟩
theorem rn_dc {vs : List Nat} (xs : List α) (pf : α → VP) (bf : α → Bool) (kf : α → D) (gf : α → VP) (hi : JI F X Γ tg iter (xs.map pf)) (hl : xs.length < sizeLine) (nd : ((xs.filter bf).map kf).Nodup) (hk : ∀ x ∈ xs, isT (kf x) = true ∧ (kf x).depth ≤ 8)
    (hb : ∀ x ∈ xs, ∀ A O v Pc, JEnt F X scope (Γ.comp vs A O v Pc) tg ifs kx vx vs (pf x) (bf x) (kf x) (gf x)) :
    RN F Γ (tDcx X.prog X.w (oI X tg iter) (gAll X scope tg) (tAll X scope ifs) (eAll X scope kx) (eAll X scope vx) vs) (oX X.prog X.w ((xs.filter bf).map fun x => (kf x, gf x))) := fun σ H Q E k => hi σ H _ E fun J v Pc H1 s1 hv wk A hA hAs => by
  have E1 := E.go s1
  have hAH : H A = none := none_back E s1 hA
  have hAS : F.S Γ.own A = false := E.fresh hAH
  have hAr : F.T.reg A = false := by
    cases q : F.T.reg A with
    | false => rfl
    | true => rw [F.regS Γ.own A q] at hAS; cases hAS
  have ix : ∀ O : OP, (Γ.own ++ [(A, O)])[Γ.own.length]? = some (A, O) := fun O => by simp
  have st : ∀ O O' : OP, (Γ.own ++ [(A, O)]).set Γ.own.length (A, O') = Γ.own ++ [(A, O')] := fun O O' => by simp
  have wl : (xs.map pf).length = xs.length := List.length_map ..
  refine ⟨fun i m Hc => i + m = xs.length ∧ Env F (Γ.comp vs A (oX X.prog X.w (((xs.take i).filter bf).map fun x => (kf x, gf x))) v Pc) (L2.wipe σ vs) Hc ∧ Step F.T (F.S Γ.own) H Hc, ⟨xs.length, Nat.zero_add _, ?_, s1.trans (E1.ex (Ex.new hA))⟩, fun i m Hc ⟨em, Ec, sc⟩ => ?_⟩
  · exact Env.addOwn (Γ := { imm := wipeI Γ.imm vs, own := Γ.own, fx := (v, Pc) :: Γ.fx }) ((E1.fact hv).wipe vs) hA (E1.ex (Ex.new hA)) ⟨[], ⟨#[], 0, [], upd_same, hAs, Nat.zero_le _, rfl, List.nodup_nil, .nil⟩, .nil⟩
  have hpc : Pc.p v (hid (F.S (Γ.own ++ [(A, oX X.prog X.w (((xs.take i).filter bf).map fun x => (kf x, gf x)))])) Hc) := Ec.fx (v, Pc) (List.mem_cons_self ..)
  have hpH : Pc.p v Hc := Pc.mono (hid_ex _ _) hpc
  cases m with
  | zero =>
    have : i = xs.length := by omega
    subst this
    rw [List.take_length] at Ec
    exact .inl ⟨wl ▸ wk.stop Hc hpH, k A Hc sc hAH (own_at Ec (ix _))⟩
  | succ m =>
    have hi' : i < xs.length := by omega
    refine .inr ⟨wk.go i Hc (by rw [wl]; exact hi') hpH, fun Hc => Env F (Γ.comp vs A (oX X.prog X.w (((xs.take (i + 1)).filter bf).map fun x => (kf x, gf x))) v Pc) (L2.wipe σ vs) Hc ∧ Step F.T (F.S Γ.own) H Hc, fun H' h => ⟨m, Nat.lt_succ_self _, by omega, h.1, h.2⟩, fun y H' hy => ?_⟩
    have hxi : (xs.map pf)[i]? = some (pf xs[i]) := by rw [List.getElem?_map, List.getElem?_eq_getElem hi']; rfl
    obtain ⟨ex, hx⟩ := wk.yld i Hc y H' _ hpc (fun a q => Ec.hdom q) hy _ hxi
    obtain ⟨Γ2, js, hjs, how, hall⟩ := hb xs[i] (List.getElem_mem hi') A (oX X.prog X.w (((xs.take i).filter bf).map fun x => (kf x, gf x))) v Pc
    have sE := Ec.ex ex
    have E' := Ec.go sE
    have tk : xs.take (i + 1) = xs.take i ++ [xs[i]] := by rw [List.take_add_one, List.getElem?_eq_getElem hi']; rfl
    intro s H0 C cl fp
    refine (hall s H0 C cl fp).1 (L2.wipe σ vs) H' y _ E' hx fun σ2 E2 w2 => ⟨(w2 vs hjs).trans (wipe_twice σ vs), fun s' H0' C' cl' fp' => ?_⟩
    have hS2 : F.S Γ2.own = F.S (Γ.own ++ [(A, oX X.prog X.w (((xs.take i).filter bf).map fun x => (kf x, gf x)))]) := by rw [how]
    have sub : ∀ {Ha Hb : Hp}, Step F.T (F.S (Γ.own ++ [(A, oX X.prog X.w (((xs.take i).filter bf).map fun x => (kf x, gf x)))])) Ha Hb → Step F.T (F.S Γ.own) Ha Hb := fun st => st.sub (fun a q => S_add.mpr (.inl q)) (F.regS _)
    refine (hall s' H0' C' cl' fp').2.1 σ2 H' _ E2 fun b H3 s3 hbb => ?_
    have hbb : b = bf xs[i] := hbb
    have s3' := s3
    rw [hS2] at s3'
    have hsc3 : Step F.T (F.S Γ.own) H H3 := sc.trans (sub (sE.trans s3'))
    cases b with
    | false =>
      rw [if_neg (fun z => nomatch z)]
      refine ⟨?_, hsc3⟩
      rw [tk, List.filter_append, List.filter_cons, ← hbb]
      simpa using E'.go s3'
    | true =>
      rw [if_pos rfl]
      intro s'' H0'' C'' cl'' fp''
      refine ((hall s'' H0'' C'' cl'' fp'').2.2 hbb.symm).1 σ2 H3 _ (E2.go s3) fun y2 H4 s4 hy2 => fun s4_ H0_ C_ cl_ fp_ => ?_
      refine ((hall s4_ H0_ C_ cl_ fp_).2.2 hbb.symm).2 σ2 H4 _ ((E2.go s3).go s4) fun z H5 s5 hz => ?_
      have s45 := s4.trans s5
      rw [hS2] at s45
      have E5 := (E'.go s3').go s45
      obtain ⟨kvs, d1, d2⟩ := own_at E5 (ix _)
      have hy5 : Im (kf xs[i]) y2 (F.vw (Γ.comp vs A (oX X.prog X.w (((xs.take i).filter bf).map fun x => (kf x, gf x))) v Pc) H5) := by
        have := (vD (kf xs[i])).mono s5.ex hy2
        rw [hS2] at this
        exact this
      have hz5 : (gf xs[i]).p z (F.vw (Γ.comp vs A (oX X.prog X.w (((xs.take i).filter bf).map fun x => (kf x, gf x))) v Pc) H5) := by
        have := hz
        unfold Fm.vw at this
        rw [hS2] at this
        exact this
      obtain ⟨hT, h8⟩ := hk xs[i] (List.getElem_mem hi')
      have fl : (xs.take (i + 1)).filter bf = (xs.take i).filter bf ++ [xs[i]] := by rw [tk, List.filter_append, List.filter_cons, ← hbb]; simp
      have new : lk (((xs.take i).filter bf).map fun x => (kf x, gf x)) (kf xs[i]) = none := by
        rw [lk_none, List.map_map]
        have sl : ((xs.take (i + 1)).filter bf).Sublist (xs.filter bf) := (List.take_sublist _ _).filter _
        have := (sl.map kf).nodup nd
        rw [fl, List.map_append, List.nodup_append] at this
        intro hm
        exact this.2.2 _ hm _ (by simp) rfl
      have kl : kvs.length < sizeLine := by
        rw [d2.length, List.length_map]
        refine Nat.lt_of_le_of_lt (List.length_filter_le _ _) ?_
        rw [List.length_take]
        omega
      refine ⟨A, kvs, kf xs[i], _, rfl, hid_ex _ _, d1, hy5, hT, h8, kl, fun H6 hk6 d3 => ⟨?_, (hsc3.trans (sub s45)).mut hAH hAr hAS hk6⟩⟩
      have := E5.setOwn (H' := H6) (O' := oX X.prog X.w (putP (((xs.take i).filter bf).map fun x => (kf x, gf x)) (kf xs[i]) (gf xs[i]))) (ix _) hk6 ⟨_, d3, d2.put hz5⟩
      rw [putP_new new] at this
      have e1 : (((xs.take (i + 1)).filter bf).map fun x => (kf x, gf x)) = (((xs.take i).filter bf).map fun x => (kf x, gf x)) ++ [(kf xs[i], gf xs[i])] := by rw [fl, List.map_append]; rfl
      rw [e1]
      rw [show ((Γ.comp vs A (oX X.prog X.w (((xs.take i).filter bf).map fun x => (kf x, gf x))) v Pc).own.set Γ.own.length (A, oX X.prog X.w ((((xs.take i).filter bf).map fun x => (kf x, gf x)) ++ [(kf xs[i], gf xs[i])]))) = Γ.own ++ [(A, oX X.prog X.w ((((xs.take i).filter bf).map fun x => (kf x, gf x)) ++ [(kf xs[i], gf xs[i])]))] from st _ _] at this
      exact this
theorem jn_dc (own : List (Str × Nat)) (xs : List α) (pf : α → VP) (bf : α → Bool) (kf : α → D) (gf : α → VP) (hr : Room n X.A) (hc : X.calm = true) (hN : X.N.Nodup) (ok : BlkOk X.N X.env.scope scope own) (hi : JI F X Γ tg iter (xs.map pf)) (hl : xs.length < sizeLine) (nd : ((xs.filter bf).map kf).Nodup) (hk : ∀ x ∈ xs, isT (kf x) = true ∧ (kf x).depth ≤ 8)
    (hb : ∀ x ∈ xs, ∀ A O v Pc, JEnt F X scope (Γ.comp (own.map (·.2)) A O v Pc) tg ifs kx vx (own.map (·.2)) (pf x) (bf x) (kf x) (gf x)) (hs : ∀ x, foldedSetIterable iter X.env x = pure x := by intro _; rfl) :
    JN F X Γ (.DictComp kx vx [⟨tg, iter, ifs, 0⟩] scope pos) (oX X.prog X.w ((xs.filter bf).map fun x => (kf x, gf x))) :=
  jn_of (pe_dcx hr.units hc hN pI ok (g := gAll X scope tg) (tt := tAll X scope ifs) (tk := eAll X scope kx) (tv := eAll X scope vx) (fun s H C cl fp => ⟨fun pins s' σ H' v u Q I r h => h s H C cl fp pins s' u I r⟩) (fun s H C cl fp => ⟨fun pins s' σ H' Q I h => h s H C cl fp pins s' I⟩) (fun s H C cl fp => ⟨fun pins s' σ H' Q I h => h s H C cl fp pins s' I⟩) (fun s H C cl fp => ⟨fun pins s' σ H' Q I h => h s H C cl fp pins s' I⟩) hs) (rn_dc xs pf bf kf gf hi hl nd hk hb)
end
end Lk
end

section
set_option Elab.async false
set_option linter.all false
set_option maxRecDepth 100000
set_option maxHeartbeats 1000000
/-! Judgements for methods. -/
namespace Lk
open PySem PySem.Spec L2
open PyProof.Rows hiding St
open Evl (Ex)
section
variable {F : Fm} {X : Cx} {Γ Γ' : Ct} {pos apos cpos : Pos} {o e e2 tg : Expr} {P Pe Po Pz : VP} {ps : List (D × VP)} {n : Nat} {rest : List Stmt} {PDD : PD} {p : Addr} {ls : List VP}
/-! d.get(k), d.get(k, z) -/
theorem ge_ok {σ : L2.St} {H : Hp} {Q : VK} {x y z : V} {k : D} (E : Env F Γ σ H) (rd : RdX F X.prog X.w Γ Po ps) (hx : Po.p x (F.vw Γ H)) (hy : (vD k).p y (F.vw Γ H)) (hz : Pz.p z (F.vw Γ H)) (h1 : ∀ P', lk ps k = some P' → ∀ v K, P'.p v K → P.p v K) (h2 : lk ps k = none → ∀ v K, Pz.p v K → P.p v K) (ht : isT k = true) (h8 : k.depth ≤ 8) (q : Kt F Γ H P Q) :
    ∃ kvs, DX X.prog X.w kvs x H ∧ Im k y H ∧ Q ((valV kvs k).getD z) H := by
  obtain ⟨kvs, hd, hp⟩ := rd σ H x E hx
  refine ⟨kvs, hd, Im.mono hy (hid_ex _ _), ?_⟩
  rcases hp.look k with ⟨n1, n2⟩ | ⟨P', v, e1, e2, e3⟩
  · rw [n2]; exact kt_here q (h2 n1 _ _ hz)
  · rw [e2]; exact kt_here q (h1 P' e1 _ _ e3)
theorem je_get2 {k : D} (hr : Room n X.A) (rd : RdX F X.prog X.w Γ Po ps) (ho : JE F X Γ o Po) (ha : JE F X Γ e (vD k)) (hb : JE F X Γ e2 Pz) (h1 : ∀ P', lk ps k = some P' → ∀ v K, P'.p v K → P.p v K) (h2 : lk ps k = none → ∀ v K, Pz.p v K → P.p v K) (h8 : k.depth ≤ 8) (ht : isT k = true := by rfl)
    (hbase : attributeBase o "get" X.env (eval o X.env) = eval o X.env := by rfl) (hfew : ((backTo cpos (starEach [e, e2] X.env)).all (fun x => !x.1) && (backToKw cpos (keywordEach [] X.env)).all (fun x => x.1.isSome) && decide ([e, e2].length + ([] : List Keyword).length + (if ([] : List Keyword).isEmpty then 0 else 1) < 30)) = true := by rfl)
    (hline : (apos.endLine == cpos.line) = true := by rfl) (hs : starEach [e, e2] X.env = (false, eval e X.env) :: starEach [e2] X.env := by rfl) (hs2 : starEach [e2] X.env = (false, eval e2 X.env) :: starEach [] X.env := by rfl) (hpl : (backTo cpos (starEach [e2] X.env)).any (·.1) = false := by rfl) : JE F X Γ (.Call (.Attribute o "get" apos) [e, e2] [] cpos) P :=
  je_of (pe_xm PySem.F.slot_dict_get PySem.F.type_dict_get (mt_getX hr.units) pE pA hbase hfew hline hs hpl) fun σ H Q E q => ho σ H _ E fun x H1 s1 p1 => by
    obtain ⟨kvs0, hd0, _⟩ := rd σ H1 x (E.go s1) p1
    refine ⟨⟨kvs0, hd0⟩, ja_cons ha (ja1 hb hs2) hs σ H1 _ (E.go s1) fun vs H2 s2 h => ?_⟩
    cases h with
    | cons a1 a2 =>
      cases a2 with
      | cons a2 a3 =>
        cases a3
        obtain ⟨kvs, hd, hi, hq⟩ := ge_ok (P := P) (Q := Q) ((E.go s1).go s2) rd (Po.mono s2.ex p1) a1 a2 h1 h2 ht h8 fun v H3 s3 h => q v H3 ((s1.trans s2).trans s3) h
        exact ⟨kvs, k, _, hd, hi, ht, h8, .inr ⟨_, rfl, hq⟩⟩
theorem je_get1 {k : D} (hr : Room n X.A) (rd : RdX F X.prog X.w Γ Po ps) (ho : JE F X Γ o Po) (ha : JE F X Γ e (vD k)) (h1 : ∀ P', lk ps k = some P' → ∀ v K, P'.p v K → P.p v K) (h2 : lk ps k = none → ∀ v K, vNone.p v K → P.p v K) (h8 : k.depth ≤ 8) (ht : isT k = true := by rfl)
    (hbase : attributeBase o "get" X.env (eval o X.env) = eval o X.env := by rfl) (hfew : ((backTo cpos (starEach [e] X.env)).all (fun x => !x.1) && (backToKw cpos (keywordEach [] X.env)).all (fun x => x.1.isSome) && decide ([e].length + ([] : List Keyword).length + (if ([] : List Keyword).isEmpty then 0 else 1) < 30)) = true := by rfl)
    (hline : (apos.endLine == cpos.line) = true := by rfl) (hs : starEach [e] X.env = (false, eval e X.env) :: starEach [] X.env := by rfl) : JE F X Γ (.Call (.Attribute o "get" apos) [e] [] cpos) P :=
  je_of (pe_xm PySem.F.slot_dict_get PySem.F.type_dict_get (mt_getX hr.units) pE pA hbase hfew hline hs rfl) fun σ H Q E q => ho σ H _ E fun x H1 s1 p1 => by
    obtain ⟨kvs0, hd0, _⟩ := rd σ H1 x (E.go s1) p1
    refine ⟨⟨kvs0, hd0⟩, ja1 ha hs σ H1 _ (E.go s1) fun vs H2 s2 h => ?_⟩
    cases h with
    | cons a1 a2 =>
      cases a2
      obtain ⟨kvs, hd, hi, hq⟩ := ge_ok (P := P) (Pz := vNone) (z := .non) (Q := Q) ((E.go s1).go s2) rd (Po.mono s2.ex p1) a1 (vD_none.mpr rfl) h1 h2 ht h8 fun v H3 s3 h => q v H3 ((s1.trans s2).trans s3) h
      exact ⟨kvs, k, _, hd, hi, ht, h8, .inl ⟨rfl, hq⟩⟩
/-! lists changed -/
theorem js_append (j : Nat) (ho : JE F X Γ o (vE (.ref p))) (he : JE F X Γ e Pe) (hl : ls.length < sizeLine) (q : JS F X { Γ with own := Γ.own.set j (p, oL (ls ++ [Pe])) } rest PDD) (hj : Γ.own[j]? = some (p, oL ls) := by rfl)
    (hbase : attributeBase o "append" X.env (eval o X.env) = eval o X.env := by rfl) (hfew : ((backTo cpos (starEach [e] X.env)).all (fun x => !x.1) && (backToKw cpos (keywordEach [] X.env)).all (fun x => x.1.isSome) && decide ([e].length + ([] : List Keyword).length + (if ([] : List Keyword).isEmpty then 0 else 1) < 30)) = true := by rfl)
    (hline : (apos.endLine == cpos.line) = true := by rfl) (hs : starEach [e] X.env = (false, eval e X.env) :: starEach [] X.env := by rfl) (hsw : swapsWith (.Call (.Attribute o "append" apos) [e] [] cpos) none pos.line X.env = pure false := by rfl) : JS F X Γ (.Expr (.Call (.Attribute o "append" apos) [e] [] cpos) pos :: rest) PDD :=
  js_st (ps_expr (pe_bm PySem.F.plainAttrs_list PySem.F.slot_list_append PySem.F.type_list_append mt_append pE pA hbase hfew hline hs rfl) hsw) fun σ H E g1 g2 => ho σ H _ g1 fun x H1 s1 p1 => by
    cases (show x = .ref p from p1)
    obtain ⟨vs0, d0, _⟩ := own_at (g1.go s1) hj
    refine ⟨.inl ⟨rfl, vs0, SqL.of d0⟩, ja1 he hs σ H1 _ (g1.go s1) fun vs H2 s2 h => ?_⟩
    have E2 := (g1.go s1).go s2
    obtain ⟨ws, d1, d2⟩ := own_at E2 hj
    cases h with
    | cons a1 a2 =>
      cases a2
      exact ⟨p, ws, _, rfl, rfl, d1, by rw [d2.length]; exact hl, q σ _ E (E2.setOwn hj (fun b hb => upd_ne hb) ⟨_, upd_same, d2.append (.cons a1 .nil)⟩) g2⟩
theorem js_extend {qs : List VP} (j : Nat) (ho : JE F X Γ o (vE (.ref p))) (he : JE F X Γ e (vL qs)) (hl : ls.length + qs.length ≤ sizeLine) (q : JS F X { Γ with own := Γ.own.set j (p, oL (ls ++ qs)) } rest PDD) (hj : Γ.own[j]? = some (p, oL ls) := by rfl)
    (hbase : attributeBase o "extend" X.env (eval o X.env) = eval o X.env := by rfl) (hfew : ((backTo cpos (starEach [e] X.env)).all (fun x => !x.1) && (backToKw cpos (keywordEach [] X.env)).all (fun x => x.1.isSome) && decide ([e].length + ([] : List Keyword).length + (if ([] : List Keyword).isEmpty then 0 else 1) < 30)) = true := by rfl)
    (hline : (apos.endLine == cpos.line) = true := by rfl) (hs : starEach [e] X.env = (false, eval e X.env) :: starEach [] X.env := by rfl) (hsw : swapsWith (.Call (.Attribute o "extend" apos) [e] [] cpos) none pos.line X.env = pure false := by rfl) : JS F X Γ (.Expr (.Call (.Attribute o "extend" apos) [e] [] cpos) pos :: rest) PDD :=
  js_st (ps_expr (pe_bm PySem.F.plainAttrs_list PySem.F.slot_list_extend PySem.F.type_list_extend mt_extend pE pA hbase hfew hline hs rfl) hsw) fun σ H E g1 g2 => ho σ H _ g1 fun x H1 s1 p1 => by
    cases (show x = .ref p from p1)
    obtain ⟨vs0, d0, _⟩ := own_at (g1.go s1) hj
    refine ⟨.inl ⟨rfl, vs0, SqL.of d0⟩, ja1 he hs σ H1 _ (g1.go s1) fun vs H2 s2 h => ?_⟩
    have E2 := (g1.go s1).go s2
    obtain ⟨ws, d1, d2⟩ := own_at E2 hj
    cases h with
    | cons a1 a2 =>
      cases a2
      obtain ⟨b, zs, rfl, hb, hz⟩ := a1
      exact ⟨p, b, ws, zs, rfl, rfl, d1, hid_ex _ _ _ _ hb, by rw [d2.length, hz.length]; exact hl, q σ _ E (E2.setOwn hj (fun b hb => upd_ne hb) ⟨_, upd_same, d2.append hz⟩) g2⟩
theorem js_extendT {qs : List VP} (j : Nat) (ho : JE F X Γ o (vE (.ref p))) (he : JE F X Γ e (vT qs)) (hl : ls.length + qs.length ≤ sizeLine) (q : JS F X { Γ with own := Γ.own.set j (p, oL (ls ++ qs)) } rest PDD) (hj : Γ.own[j]? = some (p, oL ls) := by rfl)
    (hbase : attributeBase o "extend" X.env (eval o X.env) = eval o X.env := by rfl) (hfew : ((backTo cpos (starEach [e] X.env)).all (fun x => !x.1) && (backToKw cpos (keywordEach [] X.env)).all (fun x => x.1.isSome) && decide ([e].length + ([] : List Keyword).length + (if ([] : List Keyword).isEmpty then 0 else 1) < 30)) = true := by rfl)
    (hline : (apos.endLine == cpos.line) = true := by rfl) (hs : starEach [e] X.env = (false, eval e X.env) :: starEach [] X.env := by rfl) (hsw : swapsWith (.Call (.Attribute o "extend" apos) [e] [] cpos) none pos.line X.env = pure false := by rfl) : JS F X Γ (.Expr (.Call (.Attribute o "extend" apos) [e] [] cpos) pos :: rest) PDD :=
  js_st (ps_expr (pe_bm PySem.F.plainAttrs_list PySem.F.slot_list_extend PySem.F.type_list_extend mt_extT pE pA hbase hfew hline hs rfl) hsw) fun σ H E g1 g2 => ho σ H _ g1 fun x H1 s1 p1 => by
    cases (show x = .ref p from p1)
    obtain ⟨vs0, d0, _⟩ := own_at (g1.go s1) hj
    refine ⟨.inl ⟨rfl, vs0, SqL.of d0⟩, ja1 he hs σ H1 _ (g1.go s1) fun vs H2 s2 h => ?_⟩
    have E2 := (g1.go s1).go s2
    obtain ⟨ws, d1, d2⟩ := own_at E2 hj
    cases h with
    | cons a1 a2 =>
      cases a2
      obtain ⟨b, zs, rfl, hb, hz⟩ := a1
      exact ⟨p, b, ws, zs, rfl, rfl, d1, SqT.of (hid_ex _ _ _ _ hb), by rw [d2.length, hz.length]; exact hl, q σ _ E (E2.setOwn hj (fun b hb => upd_ne hb) ⟨_, upd_same, d2.append hz⟩) g2⟩
/-- target = xs.pop() -/
theorem js_pop {js : List Nat} (j : Nat) (ho : JE F X Γ o (vE (.ref p))) (hg : JG F X { Γ with own := Γ.own.set j (p, oL ls) } tg js P Γ') (q : JS F X Γ' rest PDD) (hj : Γ.own[j]? = some (p, oL (ls ++ [P])))
    (hbase : attributeBase o "pop" X.env (eval o X.env) = eval o X.env := by rfl) (hline : (apos.endLine == cpos.line) = true := by rfl) (hs : swapsWithSole [tg] (.Call (.Attribute o "pop" apos) [] [] cpos) pos.line X.env = pure false := by rfl) (hw : swappedStores [tg] (.Call (.Attribute o "pop" apos) [] [] cpos) X.env = pure none := by rfl)
    (h1 : (assignEach [tg] X.env).map (·.2) = [assign tg X.env] := by rfl) : JS F X Γ (.Assign [tg] (.Call (.Attribute o "pop" apos) [] [] cpos) pos :: rest) PDD :=
  js_st (ps_asg (pe_bm0 PySem.F.plainAttrs_list PySem.F.slot_list_pop PySem.F.type_list_pop mt_pop pE hbase hline) pG hs hw h1) fun σ H E g1 g2 => ho σ H _ g1 fun x H1 s1 p1 => by
    cases (show x = .ref p from p1)
    obtain ⟨ws, d1, d2⟩ := own_at (g1.go s1) hj
    obtain ⟨us, vs, rfl, a1, a2⟩ := d2.split
    cases a2 with
    | @cons _ y _ _ _ a2 a3 =>
      cases a3
      refine ⟨.inl ⟨rfl, _, SqL.of d1⟩, p, us ++ [y], y, rfl, rfl, d1, by simp, ?_⟩
      have hk : ∀ b, b ≠ p → upd H1 p (.lst ((us ++ [y]).dropLast)) b = H1 b := fun b hb => upd_ne hb
      have E3 := (g1.go s1).setOwn (H' := upd H1 p (.lst ((us ++ [y]).dropLast))) (O' := oL ls) hj hk ⟨_, upd_same, by rw [List.dropLast_concat]; exact a1⟩
      refine hg σ _ _ _ E3 ?_ fun σ' E' _ => q σ' _ E E' g2
      have hv : F.vw { Γ with own := Γ.own.set j (p, oL ls) } (upd H1 p (.lst ((us ++ [y]).dropLast))) = F.vw Γ H1 := by
        have hmap : (Γ.own.set j (p, oL ls)).map (·.1) = Γ.own.map (·.1) := by
          rw [List.map_set]
          apply List.ext_getElem?
          intro i
          by_cases e : j = i
          · subst e
            have hl : j < (Γ.own.map (·.1)).length := by rw [List.length_map]; exact (List.getElem?_eq_some_iff.mp hj).1
            rw [List.getElem?_set_self hl, List.getElem?_map, hj]; rfl
          · rw [List.getElem?_set_ne e]
        have hS : F.S (Γ.own.set j (p, oL ls)) = F.S Γ.own := by
          funext a
          have : F.S (Γ.own.set j (p, oL ls)) a = true ↔ F.S Γ.own a = true := by rw [Fm.S_or, Fm.S_or, hmap]
          cases q : F.S Γ.own a with
          | true => exact this.mpr q
          | false =>
            cases z : F.S (Γ.own.set j (p, oL ls)) a with
            | false => rfl
            | true => rw [this.mp z] at q; cases q
        show hid (F.S (Γ.own.set j (p, oL ls))) _ = _
        rw [hS]
        exact hid_same (Fm.S_or.mpr (.inr (List.mem_map_of_mem (f := (·.1)) (List.mem_of_getElem? hj)))) hk
      rw [hv]
      exact a2
/-! dicts changed -/
theorem js_dpop {k : D} (j : Nat) (hr : Room n X.A) (ho : JE F X Γ o (vE (.ref p))) (he : JE F X Γ e (vD k)) (hk : (lk ps k).isSome = true) (q : JS F X { Γ with own := Γ.own.set j (p, oX X.prog X.w (ps.filter fun kv => decide (kv.1 ≠ k))) } rest PDD) (h8 : k.depth ≤ 8) (hj : Γ.own[j]? = some (p, oX X.prog X.w ps) := by rfl) (ht : isT k = true := by rfl)
    (hbase : attributeBase o "pop" X.env (eval o X.env) = eval o X.env := by rfl) (hfew : ((backTo cpos (starEach [e] X.env)).all (fun x => !x.1) && (backToKw cpos (keywordEach [] X.env)).all (fun x => x.1.isSome) && decide ([e].length + ([] : List Keyword).length + (if ([] : List Keyword).isEmpty then 0 else 1) < 30)) = true := by rfl)
    (hline : (apos.endLine == cpos.line) = true := by rfl) (hs : starEach [e] X.env = (false, eval e X.env) :: starEach [] X.env := by rfl) (hsw : swapsWith (.Call (.Attribute o "pop" apos) [e] [] cpos) none pos.line X.env = pure false := by rfl) : JS F X Γ (.Expr (.Call (.Attribute o "pop" apos) [e] [] cpos) pos :: rest) PDD :=
  js_st (ps_expr (pe_xm PySem.F.slot_dict_pop PySem.F.type_dict_pop (mt_pop2 hr.units) pE pA hbase hfew hline hs rfl) hsw) fun σ H E g1 g2 => ho σ H _ g1 fun x H1 s1 p1 => by
    cases (show x = .ref p from p1)
    obtain ⟨kvs0, d0, _⟩ := own_at (g1.go s1) hj
    refine ⟨⟨kvs0, d0.dx (hid_ex _ _)⟩, ja1 he hs σ H1 _ (g1.go s1) fun vs H2 s2 h => ?_⟩
    have E2 := (g1.go s1).go s2
    obtain ⟨kvs, d1, d2⟩ := own_at E2 hj
    cases h with
    | cons a1 a2 =>
      cases a2
      rcases d2.look k with ⟨n1, _⟩ | ⟨P', v, e1, e2, e3⟩
      · rw [n1] at hk; cases hk
      · exact ⟨p, kvs, k, _, v, _, rfl, rfl, hid_ex _ _, d1, Im.mono a1 (hid_ex _ _), ht, h8, e2, fun H3 hk3 d3 => q σ _ E (E2.setOwn hj hk3 ⟨_, d3, d2.drop k⟩) g2⟩
theorem js_clear (j : Nat) (ho : JE F X Γ o (vE (.ref p))) (q : JS F X { Γ with own := Γ.own.set j (p, oX X.prog X.w []) } rest PDD) (hj : Γ.own[j]? = some (p, oX X.prog X.w ps) := by rfl)
    (hbase : attributeBase o "clear" X.env (eval o X.env) = eval o X.env := by rfl) (hline : (apos.endLine == cpos.line) = true := by rfl) (hsw : swapsWith (.Call (.Attribute o "clear" apos) [] [] cpos) none pos.line X.env = pure false := by rfl) : JS F X Γ (.Expr (.Call (.Attribute o "clear" apos) [] [] cpos) pos :: rest) PDD :=
  js_st (ps_expr (pe_xm0 PySem.F.slot_dict_clear PySem.F.type_dict_clear mt_clearX pE hbase hline) hsw) fun σ H E g1 g2 => ho σ H _ g1 fun x H1 s1 p1 => by
    cases (show x = .ref p from p1)
    have E1 := g1.go s1
    obtain ⟨kvs, d1, d2⟩ := own_at E1 hj
    have dx := d1.dx (hid_ex _ _)
    refine ⟨⟨kvs, dx⟩, p, kvs, rfl, rfl, dx, fun H3 hk3 _ d3 => q σ _ E (E1.setOwn hj hk3 ⟨[], ?_, .nil⟩) g2⟩
    obtain ⟨a, es, ep, xs, ea, ha, hs, hl, hh, hn, hk⟩ := d3
    cases ea
    cases hk
    exact ⟨es, ep, [], ha, hs, hl, hh, hn, .nil⟩
/-! values walked -/
theorem ji_values (he : JE F X Γ e (vX X.prog X.w ps)) (hbase : attributeBase e "values" X.env (eval e X.env) = eval e X.env := by rfl) (hline : (apos.endLine == cpos.line) = true := by rfl) : JI F X Γ tg (.Call (.Attribute e "values" apos) [] [] cpos) (ps.map (·.2)) := fun σ H R E k => oI_of (pi_valuesX pE hbase hline) (he σ H _ E fun v H1 s ⟨a, kvs, h1, h2, h3⟩ => by
  obtain ⟨es, ep, xs, ha, hs, hl, hh, hn, hk⟩ := h2
  have de : DXe X.prog X.w kvs a es ep (F.vw Γ H1) := ⟨xs, ha, hs, hl, hh, hn, hk⟩
  have el : kvs.length = (ps.map (·.2)).length := by rw [List.length_map]; exact h3.length
  refine ⟨a, es, ep, kvs, h1, de.mono (hid_ex _ _), k _ v ⟨fun _ K => DXe X.prog X.w kvs a es ep K ∧ PX ps kvs K, fun e h => ⟨h.1.mono e, h.2.mono e⟩⟩ H1 s ⟨de, h3⟩ ⟨fun i H hi h => ⟨h.1, by rw [el]; exact hi⟩, fun H h => ⟨h.1, by rw [el]; exact Nat.le_refl _⟩, fun i H x H' S h hS hy PP hP => ?_⟩⟩
  obtain ⟨rfl, kk, hkv⟩ := hy
  refine ⟨Ex.refl _, ?_⟩
  obtain ⟨P2, e1, e2⟩ := h.2.get hkv
  rw [List.getElem?_map, e1] at hP
  cases hP
  exact e2)
end
end Lk
end

section
set_option Elab.async false
set_option linter.all false
set_option maxRecDepth 100000
set_option maxHeartbeats 1000000
/-! Rules, moves, the book. -/
namespace Lk
open PySem PySem.Spec L2
open PyProof.Rows hiding St
open Evl (Ex)
open M (Bk Rl Mv Vl Wb Wy)
section
variable {P : Program} {w : World} {K : PySem.W.Frag} {mg : Str → Option Value} {base : Heap} {f : Addr} {fd : FuncData} {CB CW CR : Addr}
abbrev spIsRule : Sp := mkSp (α := Rl × Bk) (fun a _ => a.2.ok ∧ a.1 ∈ a.2.ru) (fun a => [vD (rlD a.1), vD (dTN a.2.ar), vN a.2.kn]) (fun _ _ => vB true)
theorem fc_is_rule (g : Gk K mg CB CW CR) (ct : Fc P w K mg base 1 "is_tuple_of" spIsTupleOf) (cw : Fc P w K mg base 2 "is_within" spIsWithin) (ca : Fc P w K mg base 3 "are_within" spAreWithin) (F : FnP K "is_rule" s_is_rule f fd) (gm : mg "is_rule" = some (.ref f)) : Fc P w K mg base 4 "is_rule" spIsRule := by
  refine fc_of F gm sc_is_rule (F.bindsN fun _ _ _ _ _ _ us hl => match us, hl with | [_, _, _], _ => rfl) (fun _ => rfl) ?_
  rintro ⟨r, b⟩ Fr cdv A outer s E hr ⟨ok, hm⟩
  replace ok : b.ok := ok
  replace hm : r ∈ b.ru := hm
  obtain ⟨h1, h2, h3, h4, h5, h6⟩ := ok.rl r hm
  obtain ⟨t, i6⟩ := g.i6
  have l8 := ok.ar8
  have a2 := ok.ar2 _ (List.mem_of_getElem? h3)
  have k1 := ok.kn1
  refine js_skipB (jt_w (jw_or (jt_not (jt_val (je_call ct (hr.mono (by decide)) ([dN r.op, dTN r.src, dN r.dst, dN r.pr], 4) trivial (ja_cons (je_name 0) (ja1 je_int)) (fun _ _ _ h => h)))) fun _ => jw_or1 (jt_not (jt_val (je_call cw (hr.mono (by decide)) ((r.op : Int), 0, (b.ar.length : Int) - 1) trivial
    (ja_cons (je_ixT (je_name 0) je_int rfl) (ja_cons je_int (ja1 (je_sub (je_imp (je_lenT g.fr (je_name 1)) (fun v K h => by rw [List.length_map] at h; exact h)) je_int)))) (fun _ _ _ h => h)))))) (by simp; omega) ?_
  refine js_skipB (jt_w (jw_or (jt_not (jt_val (je_call ca hr (r.src, 0, (b.kn : Int) - 1) (show r.src.length < 100000 by omega) (ja_cons (je_ixT (je_name 0) je_int rfl) (ja_cons je_int (ja1 (je_sub (je_name 2) je_int)))) (fun _ _ _ h => h)))) fun _ => jw_or1
    (jt_neD hr (je_imp (je_lenT g.fr (je_ixT (je_name 0) je_int (d := dTN r.src) rfl)) (fun v K h => by rw [List.length_map] at h; exact h)) (je_ixT (je_name 1) (je_ixT (je_name 0) je_int (d := dN r.op) rfl) (d := dN r.src.length) (at_map dN h3)))))
    (by simp; intro x hx; have := h2 x hx; omega) ?_
  refine js_ret (P := vB _) (je_and (je_call cw (hr.mono (by decide)) ((r.dst : Int), 0, (b.kn : Int) - 1) trivial (ja_cons (je_ixT (je_name 0) je_int rfl) (ja_cons je_int (ja1 (je_sub (je_name 2) je_int)))) (fun _ _ _ h => h)) fun _ => je_one (je_call cw (hr.mono (by decide)) ((r.pr : Int), 1, 1000) trivial (ja_cons (je_ixT (je_name 0) je_int rfl) (ja_cons je_int (ja1 (je_glob i6)))) (fun _ _ _ h => h))) (fun v K h => ?_)
  rw [show v = _ from h]
  show V.bl _ = V.bl true
  congr 1
  simp
  omega
abbrev spIsMove : Sp := mkSp (α := Mv × Bk) (fun a _ => a.2.ok ∧ a.1 ∈ a.2.mv) (fun a => [vD (mvD a.1), vN a.2.kn]) (fun _ _ => vB true)
theorem fc_is_move (g : Gk K mg CB CW CR) (ct : Fc P w K mg base 1 "is_tuple_of" spIsTupleOf) (cw : Fc P w K mg base 2 "is_within" spIsWithin) (ca : Fc P w K mg base 3 "are_within" spAreWithin) (F : FnP K "is_move" s_is_move f fd) (gm : mg "is_move" = some (.ref f)) : Fc P w K mg base 4 "is_move" spIsMove := by
  refine fc_of F gm sc_is_move (F.bindsN fun _ _ _ _ _ _ us hl => match us, hl with | [_, _], _ => rfl) (fun _ => rfl) ?_
  rintro ⟨r, b⟩ Fr cdv A outer s E hr ⟨ok, hm⟩
  replace ok : b.ok := ok
  replace hm : r ∈ b.mv := hm
  obtain ⟨h1, h2, h3, h4, h5⟩ := ok.mo r hm
  obtain ⟨t, i6⟩ := g.i6
  have k1 := ok.kn1
  refine js_skipB (jt_w (jw_or (jt_not (jt_val (je_call ct (hr.mono (by decide)) ([dN r.frm, dN r.to, dN r.pr], 3) trivial (ja_cons (je_name 0) (ja1 je_int)) (fun _ _ _ h => h)))) fun _ => jw_or
    (jt_not (jt_val (je_call ca hr ([r.frm, r.to], 0, (b.kn : Int) - 1) (show (2 : Nat) < 100000 by decide) (ja_cons (je_slT (ds := [dN r.frm, dN r.to, dN r.pr]) (je_name 0) jo_none (jo_some je_int)) (ja_cons je_int (ja1 (je_sub (je_name 1) je_int)))) (fun _ _ _ h => h)))) fun _ => jw_or1
    (jt_eqD hr (je_ixT (je_name 0) je_int (d := dN r.frm) rfl) (je_ixT (je_name 0) je_int (d := dN r.to) rfl)))) (by simp; omega) ?_
  refine js_ret (P := vB _) (je_call cw (hr.mono (by decide)) ((r.pr : Int), 1, 1000) trivial (ja_cons (je_ixT (je_name 0) je_int rfl) (ja_cons je_int (ja1 (je_glob i6)))) (fun _ _ _ h => h)) (fun v K h => ?_)
  rw [show v = _ from h]
  show V.bl _ = V.bl true
  congr 1
  simp
  omega
abbrev spIsLong : Sp := mkSp (α := List D × Nat) (fun a _ => a.1.length ≤ a.2) (fun a => [vD (.tup a.1), vN a.2]) (fun _ _ => vB true)
theorem fc_is_long (g : Gk K mg CB CW CR) (F : FnP K "is_long" s_is_long f fd) (gm : mg "is_long" = some (.ref f)) : Fc P w K mg base 1 "is_long" spIsLong := by
  refine fc_of F gm sc_is_long (F.bindsN fun _ _ _ _ _ _ us hl => match us, hl with | [_, _], _ => rfl) (fun _ => rfl) ?_
  rintro ⟨ds, n⟩ Fr cdv A outer s E hr hp
  replace hp : ds.length ≤ n := hp
  refine js_ret (P := vB _) (je_and (je_isiTup g.fr (je_name 0)) fun _ => je_one (je_le (je_lenT g.fr (je_name 0)) (je_name 1))) (fun v K h => ?_)
  rw [show v = _ from h]
  show V.bl _ = V.bl true
  congr 1
  simp
  omega
/-! the checks of a book: no key twice -/
def rkD (r : Rl) : D := .tup [dN r.op, dTN r.src, dN r.dst]
def mkD (m : Mv) : D := .tup [dN m.frm, dN m.to]
theorem dN_inj {m n : Nat} (h : dN m = dN n) : m = n := by injection h with h; exact Int.ofNat.inj h
theorem dNs_inj : ∀ {l m : List Nat}, l.map dN = m.map dN → l = m
  | [], [], _ => rfl
  | a :: l, b :: m, h => by
    rw [List.map_cons, List.map_cons] at h
    injection h with h1 h2
    rw [dN_inj h1, dNs_inj h2]
theorem rkD_inj {r r' : Rl} (h : rkD r = rkD r') : (r.op, r.src, r.dst) = (r'.op, r'.src, r'.dst) := by
  unfold rkD at h
  injection h with h
  injection h with h1 h
  injection h with h2 h
  injection h with h3 h
  injection h2 with h2
  rw [dN_inj h1, dNs_inj h2, dN_inj h3]
theorem mkD_inj {r r' : Mv} (h : mkD r = mkD r') : (r.frm, r.to) = (r'.frm, r'.to) := by
  unfold mkD at h
  injection h with h
  injection h with h1 h
  injection h with h2 h
  rw [dN_inj h1, dN_inj h2]
theorem key_new {α β : Type} {f : α → D} {k : α → β} (hf : ∀ x y, f x = f y → k x = k y) {l : List α} (nd : (l.map k).Nodup) {i : Nat} {x : α} (hx : l[i]? = some x) : f x ∉ (l.take i).map f := by
  intro h
  obtain ⟨y, hy, e⟩ := List.mem_map.mp h
  obtain ⟨j, hj⟩ := List.getElem?_of_mem hy
  have hji : j < i := by
    have := (List.getElem?_eq_some_iff.mp hj).1
    rw [List.length_take] at this
    omega
  rw [List.getElem?_take_of_lt hji] at hj
  have e1 : (l.map k)[j]? = some (k y) := by rw [List.getElem?_map, hj]; rfl
  have e2 : (l.map k)[i]? = some (k x) := by rw [List.getElem?_map, hx]; rfl
  rw [hf y x e] at e1
  have hl : j < (l.map k).length := (List.getElem?_eq_some_iff.mp e1).1
  have := (List.getElem?_inj hl nd).mp (e1.trans e2.symm)
  omega
theorem dTN_fn (l : List Nat) : Fn 1 (dTN l) := Fn.tup (n := 0) fun d hd => by obtain ⟨n, _, rfl⟩ := List.mem_map.mp hd; exact .num _
theorem rkD_fn (r : Rl) : Fn 8 (rkD r) := (Fn.tup (n := 1) (all_cons (.num _) (all_cons (dTN_fn _) (all_cons (.num _) all_nil)))).mono (by decide)
theorem mkD_fn (r : Mv) : Fn 8 (mkD r) := (Fn.tup (n := 0) (all_cons (.num _) (all_cons (.num _) all_nil))).mono (by decide)
def tru {α : Type} (f : α → D) (l : List α) : List (D × VP) := l.map fun x => (f x, vB true)
theorem tru_none {α : Type} {f : α → D} {l : List α} {k : D} (h : k ∉ l.map f) : lk (tru f l) k = none := by
  rw [lk_none]
  unfold tru
  rw [List.map_map]
  exact h
theorem take_succ {α : Type} {l : List α} {i : Nat} {x : α} (h : l[i]? = some x) : l.take (i + 1) = l.take i ++ [x] := by rw [List.take_add_one, h]; rfl
theorem tru_put {α : Type} {f : α → D} {l : List α} {i : Nat} {x : α} (hx : l[i]? = some x) (h : f x ∉ (l.take i).map f) : putP (tru f (l.take i)) (f x) (vB true) = tru f (l.take (i + 1)) := by
  rw [putP_new (tru_none h), take_succ hx]
  unfold tru
  rw [List.map_append]; rfl
abbrev spCheckRules : Sp := mkSp (α := Bk) (fun b _ => b.ok) (fun b => [vD (rusD b), vD (dTN b.ar), vN b.kn]) (fun _ _ => vNone)
theorem fc_check_rules (g : Gk K mg CB CW CR) (ct : Fc P w K mg base 4 "is_rule" spIsRule) (F : FnP K "check_rules" s_check_rules f fd) (gm : mg "check_rules" = some (.ref f)) : Fc P w K mg base 5 "check_rules" spCheckRules := by
  refine fc_of F gm sc_check_rules (F.bindsN fun _ _ _ _ _ _ us hl => match us, hl with | [_, _, _], _ => rfl) (fun _ => rfl) ?_
  intro b Fr cdv A outer s E hr ok
  replace ok : b.ok := ok
  refine js_new 3 sc_check_rules.nd (jn_dict) fun p => ?_
  refine js_for (fun i Γ => Γ = ⟨[some (vD (rusD b)), some (vD (dTN b.ar)), some (vN b.kn), some (vE (.ref p)), none, none], [(p, oX P w (tru rkD (b.ru.take i)))], []⟩) rfl rfl (ji_enD g.fr (je_name 0)) rfl ?_ ?_
  · rintro i P' Γ1 hP rfl v Pc
    rw [List.getElem?_map] at hP
    obtain ⟨j, e1, rfl⟩ := Option.map_eq_some_iff.mp hP
    obtain ⟨e2, e3⟩ := List.getElem?_eq_some_iff.mp e1
    rw [List.getElem_range] at e3
    subst e3
    rw [List.length_range, List.length_map] at e2
    have hx : b.ru[i]? = some b.ru[i] := List.getElem?_eq_getElem e2
    have hD : (b.ru.map rlD).getD i .none = rlD b.ru[i] := getD_get (by rw [List.getElem?_map, hx]; rfl)
    have hn := key_new (f := rkD) (k := fun r : Rl => (r.op, r.src, r.dst)) (fun _ _ => rkD_inj) ok.ruN hx
    refine ⟨_, _, jg_tup rfl (jgs_cons (jg_name 4 sc_check_rules.nd) (jgs_cons (jg_name 5 sc_check_rules.nd) jgs_nil)), ?_⟩
    rw [hD]
    refine js_skipB (jt_w (jw_or (jt_not (jt_val (je_call ct hr (b.ru[i], b) ⟨ok, List.getElem_mem e2⟩ (ja_cons (je_name 5) (ja_cons (je_name 1) (ja1 (je_name 2)))) (fun _ _ _ h => h)))) fun _ => jw_or1
      (jt_in (k := rkD b.ru[i]) hr (rdxO 0) (je_slT (ds := [dN b.ru[i].op, dTN b.ru[i].src, dN b.ru[i].dst, dN b.ru[i].pr]) (je_name 5) jo_none (jo_some je_int)) (je_name 3) (by rw [tru_none hn]; rfl) (rkD_fn _).2))) rfl ?_
    refine js_put (k := rkD b.ru[i]) 0 hr je_bl (je_name 3) (je_slT (ds := [dN b.ru[i].op, dTN b.ru[i].src, dN b.ru[i].dst, dN b.ru[i].pr]) (je_name 5) jo_none (jo_some je_int)) ?_ ?_ rfl rfl (rkD_fn _).2
    · rw [show (tru rkD (b.ru.take i)).length = (b.ru.take i).length from List.length_map .., List.length_take]
      have := ok.ru40
      exact Nat.lt_of_le_of_lt (Nat.min_le_right _ _) (Nat.lt_of_le_of_lt this (by decide))
    · exact js_nil ⟨_, rfl, (by repeat' first | exact True.intro | refine ⟨fun _ _ h => h, ?_⟩), by rw [tru_put hx hn]; rfl, rfl⟩
  · rintro Γ' rfl
    exact js_nil fun K => vD_none.mpr rfl
end
end Lk
end

section
set_option Elab.async false
set_option linter.all false
set_option maxRecDepth 100000
set_option maxHeartbeats 1000000
/-! Moves checked, the book made, prices. -/
namespace Lk
open PySem PySem.Spec L2
open PyProof.Rows hiding St
open Evl (Ex)
open M (Bk Rl Mv Vl Wb Wy)
section
variable {P : Program} {w : World} {K : PySem.W.Frag} {mg : Str → Option Value} {base : Heap} {f : Addr} {fd : FuncData} {CB CW CR : Addr}
abbrev spCheckMoves : Sp := mkSp (α := Bk) (fun b _ => b.ok) (fun b => [vD (mvsD b), vN b.kn]) (fun _ _ => vNone)
theorem fc_check_moves (g : Gk K mg CB CW CR) (ct : Fc P w K mg base 4 "is_move" spIsMove) (F : FnP K "check_moves" s_check_moves f fd) (gm : mg "check_moves" = some (.ref f)) : Fc P w K mg base 5 "check_moves" spCheckMoves := by
  refine fc_of F gm sc_check_moves (F.bindsN fun _ _ _ _ _ _ us hl => match us, hl with | [_, _], _ => rfl) (fun _ => rfl) ?_
  intro b Fr cdv A outer s E hr ok
  replace ok : b.ok := ok
  refine js_new 2 sc_check_moves.nd (jn_dict) fun p => ?_
  refine js_for (fun i Γ => Γ = ⟨[some (vD (mvsD b)), some (vN b.kn), some (vE (.ref p)), none, none], [(p, oX P w (tru mkD (b.mv.take i)))], []⟩) rfl rfl (ji_enD g.fr (je_name 0)) rfl ?_ ?_
  · rintro i P' Γ1 hP rfl v Pc
    rw [List.getElem?_map] at hP
    obtain ⟨j, e1, rfl⟩ := Option.map_eq_some_iff.mp hP
    obtain ⟨e2, e3⟩ := List.getElem?_eq_some_iff.mp e1
    rw [List.getElem_range] at e3
    subst e3
    rw [List.length_range, List.length_map] at e2
    have hx : b.mv[i]? = some b.mv[i] := List.getElem?_eq_getElem e2
    have hD : (b.mv.map mvD).getD i .none = mvD b.mv[i] := getD_get (by rw [List.getElem?_map, hx]; rfl)
    have hn := key_new (f := mkD) (k := fun r : Mv => (r.frm, r.to)) (fun _ _ => mkD_inj) ok.mvN hx
    refine ⟨_, _, jg_tup rfl (jgs_cons (jg_name 3 sc_check_moves.nd) (jgs_cons (jg_name 4 sc_check_moves.nd) jgs_nil)), ?_⟩
    rw [hD]
    refine js_skipB (jt_w (jw_or (jt_not (jt_val (je_call ct hr (b.mv[i], b) ⟨ok, List.getElem_mem e2⟩ (ja_cons (je_name 4) (ja1 (je_name 1))) (fun _ _ _ h => h)))) fun _ => jw_or1
      (jt_in (k := mkD b.mv[i]) hr (rdxO 0) (je_slT (ds := [dN b.mv[i].frm, dN b.mv[i].to, dN b.mv[i].pr]) (je_name 4) jo_none (jo_some je_int)) (je_name 2) (by rw [tru_none hn]; rfl) (mkD_fn _).2))) rfl ?_
    refine js_put (k := mkD b.mv[i]) 0 hr je_bl (je_name 2) (je_slT (ds := [dN b.mv[i].frm, dN b.mv[i].to, dN b.mv[i].pr]) (je_name 4) jo_none (jo_some je_int)) ?_ ?_ rfl rfl (mkD_fn _).2
    · rw [show (tru mkD (b.mv.take i)).length = (b.mv.take i).length from List.length_map .., List.length_take]
      have := ok.mv20
      exact Nat.lt_of_le_of_lt (Nat.min_le_right _ _) (Nat.lt_of_le_of_lt this (by decide))
    · exact js_nil ⟨_, rfl, (by repeat' first | exact True.intro | refine ⟨fun _ _ h => h, ?_⟩), by rw [tru_put hx hn]; rfl, rfl⟩
  · rintro Γ' rfl
    exact js_nil fun K => vD_none.mpr rfl
/-! the book -/
abbrev inBook (CB : Addr) : Sp := mkIn CB (α := Bk) (fun b => b.ok) (fun b => [vD (dTN b.ar), vN b.kn, vD (rusD b), vD (mvsD b)]) (bookV CB)
theorem fi_Book (g : Gk K mg CB CW CR) (cw : Fc P w K mg base 2 "is_within" spIsWithin) (ca : Fc P w K mg base 3 "are_within" spAreWithin) (cl : Fc P w K mg base 1 "is_long" spIsLong) (cr : Fc P w K mg base 5 "check_rules" spCheckRules) (cm : Fc P w K mg base 5 "check_moves" spCheckMoves)
    (F : FunD K "__init__" "Book.__init__" (defArgs s_Book_init) (defBody s_Book_init) (defScope s_Book_init) [] [] f fd) (hM : L2.Mk K CB f) : Fi P w K mg base 6 CB (inBook CB) := by
  refine fi_of F hM sc_Book_init (F.bindsN fun _ _ _ _ _ _ us hl => match us, hl with | [_, _, _, _, _], _ => rfl) (fun _ => rfl) ?_
  intro b Fr cdv A outer s H E z dx hr ok
  replace ok : b.ok := ok
  obtain ⟨t1, i1⟩ := g.i1
  obtain ⟨t2, i2⟩ := g.i2
  obtain ⟨t3, i3⟩ := g.i3
  obtain ⟨t4, i4⟩ := g.i4
  obtain ⟨t5, i5⟩ := g.i5
  have a1 := ok.ar1
  have a8 := ok.ar8
  have k1 := ok.kn1
  have k5 := ok.kn5
  refine js_skipB (jt_w (jw_or (jt_not (jt_val (je_call ca (hr.mono (by decide)) (b.ar, 0, 2) (show b.ar.length < 100000 by omega) (ja_cons (je_name 1) (ja_cons je_int (ja1 (je_glob i3)))) (fun _ _ _ h => h)))) fun _ => jw_or1
    (jt_not (jt_chainI op_le op_le je_int (je_imp (je_lenT g.fr (je_name 1)) (fun v K h => by rw [List.length_map] at h; exact h)) (je_glob i1))))) ?_ ?_
  · have : (b.ar.all fun i => decide ((0 : Int) ≤ (i : Int)) && decide ((i : Int) ≤ 2)) = true := by
      rw [List.all_eq_true]
      intro x hx
      have := ok.ar2 x hx
      simp
      omega
    rw [this]
    simp
    omega
  refine js_skipB (jt_not (jt_val (je_call cw (hr.mono (by decide)) ((b.kn : Int), 1, 5) trivial (ja_cons (je_name 2) (ja_cons je_int (ja1 (je_glob i2)))) (fun _ _ _ h => h)))) (by simp; omega) ?_
  refine js_skipB (jt_not (jt_val (je_call cl (hr.mono (by decide)) (b.ru.map rlD, 40) (by rw [List.length_map]; exact ok.ru40) (ja_cons (je_name 3) (ja1 (je_glob i4))) (fun _ _ _ h => h)))) rfl ?_
  refine js_skipB (jt_not (jt_val (je_call cl (hr.mono (by decide)) (b.mv.map mvD, 20) (by rw [List.length_map]; exact ok.mv20) (ja_cons (je_name 4) (ja1 (je_glob i5))) (fun _ _ _ h => h)))) rfl ?_
  refine js_drop (je_call cr hr b ok (ja_cons (je_name 3) (ja_cons (je_name 1) (ja1 (je_name 2)))) (fun _ _ _ h => h)) ?_
  refine js_drop (je_call cm hr b ok (ja_cons (je_name 4) (ja1 (je_name 2))) (fun _ _ _ h => h)) ?_
  refine js_fld 0 (je_name 1) (je_name 0) g.cB (g.nB _ (by decide)) ?_
  refine js_fld 0 (je_name 2) (je_name 0) g.cB (g.nB _ (by decide)) ?_
  refine js_fld 0 (je_name 3) (je_name 0) g.cB (g.nB _ (by decide)) ?_
  refine js_fld 0 (je_name 4) (je_name 0) g.cB (g.nB _ (by decide)) ?_
  exact js_nil ⟨_, rfl, fun K h => h⟩
/-! a way's price -/
abbrev spPriceOf (CB : Addr) : Sp := mkSp (α := Bk × Wy) (fun a _ => ∃ op kind, a.2 ∈ M.waysOf a.1 op kind) (fun a => [bookV CB a.1, vD (wyD a.2)]) (fun a _ => vN (M.price a.1 a.2))
theorem fc_price_of (g : Gk K mg CB CW CR) (F : FnP K "price_of" s_price_of f fd) (gm : mg "price_of" = some (.ref f)) : Fc P w K mg base 1 "price_of" (spPriceOf CB) := by
  refine fc_of F gm sc_price_of (F.bindsN fun _ _ _ _ _ _ us hl => match us, hl with | [_, _], _ => rfl) (fun _ => rfl) ?_
  rintro ⟨b, y⟩ Fr cdv A outer s E hr ⟨op, kind, hy⟩
  rcases M.mem_waysOf.mp hy with ⟨n, rfl, h1, h2⟩ | ⟨n, rfl, h1, h2, h3⟩
  · refine js_ret (P := vN (M.price b (.mv n))) (je_if (jt_eqD hr (je_ixT (d := .text sMove) (je_name 1) je_int rfl) je_str fine_move fine_rule) (fun z => nomatch z) fun _ => ?_) (fun _ _ h => h)
    exact je_ixT (ds := [dN (b.mo n).frm, dN (b.mo n).to, dN (b.mo n).pr]) (je_ixT (je_mvs g (je_name 0)) (je_ixT (d := dN n) (je_name 1) je_int rfl) (at_map mvD (by rw [M.Bk.mo, List.getD_eq_getElem?_getD, List.getElem?_eq_getElem h1]; rfl))) je_int rfl
  · refine js_ret (P := vN (M.price b (.ru n))) (je_if (jt_eqD hr (je_ixT (d := .text sRule) (je_name 1) je_int rfl) je_str fine_rule fine_rule) (fun _ => ?_) fun z => nomatch z) (fun _ _ h => h)
    exact je_ixT (ds := [dN (b.rl n).op, dTN (b.rl n).src, dN (b.rl n).dst, dN (b.rl n).pr]) (je_ixT (je_rus g (je_name 0)) (je_ixT (d := dN n) (je_name 1) je_int rfl) (at_map rlD (by rw [M.Bk.rl, List.getD_eq_getElem?_getD, List.getElem?_eq_getElem h1]; rfl))) je_int rfl
end
end Lk
end

section
set_option Elab.async false
set_option linter.all false
set_option maxRecDepth 100000
set_option maxHeartbeats 1000000
/-! Webs: checked, made. -/
namespace Lk
open PySem PySem.Spec L2
open PyProof.Rows hiding St
open Evl (Ex)
open M (Bk Rl Mv Vl Wb Wy)
structure Wv (w : Wb) : Prop where
  len : w.length ≤ 200
  at_ : ∀ v, v < w.length → (M.vl w v).op ≤ 7 ∧ (M.vl w v).parts.length ≤ 2 ∧ ∀ p ∈ (M.vl w v).parts, p < v
theorem wv_of {b : Bk} {w : Wb} (ok : b.ok) (h : M.Wok b w) : Wv w := by
  refine ⟨h.len, fun v hv => ?_⟩
  obtain ⟨h1, h2, h3⟩ := h.at_ v hv
  have := ok.ar8
  exact ⟨by omega, ok.ar2 _ (List.mem_of_getElem? h2), h3⟩
theorem vl_at {w : Wb} {v : Nat} (h : v < w.length) : w[v]? = some (M.vl w v) := by
  unfold M.vl
  rw [List.getD_eq_getElem?_getD, List.getElem?_eq_getElem h]
  rfl
theorem vl_mem {w : Wb} {x : Vl} (h : x ∈ w) : ∃ v, v < w.length ∧ M.vl w v = x := by
  obtain ⟨v, hv⟩ := List.getElem?_of_mem h
  have hl := (List.getElem?_eq_some_iff.mp hv).1
  rw [vl_at hl] at hv
  exact ⟨v, hl, Option.some.inj hv⟩
section
variable {P : Program} {w : World} {K : PySem.W.Frag} {mg : Str → Option Value} {base : Heap} {f : Addr} {fd : FuncData} {CB CW CR : Addr}
abbrev spIsValue : Sp := mkSp (α := Vl × Nat) (fun a _ => a.1.op ≤ 7 ∧ a.1.parts.length ≤ 2 ∧ ∀ p ∈ a.1.parts, p < a.2) (fun a => [vD (vlD a.1), vN a.2]) (fun _ _ => vB true)
theorem fc_is_value (g : Gk K mg CB CW CR) (ct : Fc P w K mg base 1 "is_tuple_of" spIsTupleOf) (cw : Fc P w K mg base 2 "is_within" spIsWithin) (F : FnP K "is_value" s_is_value f fd) (gm : mg "is_value" = some (.ref f)) : Fc P w K mg base 3 "is_value" spIsValue := by
  refine fc_of F gm sc_is_value (F.bindsN fun _ _ _ _ _ _ us hl => match us, hl with | [_, _], _ => rfl) (fun _ => rfl) ?_
  rintro ⟨x, n⟩ Fr cdv A outer s E hr ⟨h1, h2, h3⟩
  replace h1 : x.op ≤ 7 := h1
  replace h2 : x.parts.length ≤ 2 := h2
  replace h3 : ∀ p ∈ x.parts, p < n := h3
  obtain ⟨t7, i7⟩ := g.i7
  obtain ⟨t8, i8⟩ := g.i8
  refine js_skipB (jt_w (jw_or (jt_not (jt_val (je_call ct (hr.mono (by decide)) ([dN x.op, dTN x.parts], 2) trivial (ja_cons (je_name 0) (ja1 je_int)) (fun _ _ _ h => h)))) fun _ => jw_or1 (jt_not (jt_val (je_call cw hr ((x.op : Int), 0, 7) trivial (ja_cons (je_ixT (je_name 0) je_int rfl) (ja_cons je_int (ja1 (je_glob i7)))) (fun _ _ _ h => h)))))) (by simp; omega) ?_
  refine js_skipB (jt_w (jw_or (jt_not (jt_val (je_isiTup (ds := x.parts.map dN) g.fr (je_ixT (je_name 0) je_int rfl)))) fun _ => jw_or1 (jt_gt (je_lenT (ds := x.parts.map dN) g.fr (je_ixT (je_name 0) je_int rfl)) (je_glob i8)))) (by simp; omega) ?_
  refine js_ret (P := vB ((x.parts.map fun (j : Nat) => decide ((0 : Int) ≤ (j : Int)) && decide ((j : Int) ≤ (n : Int) - 1)).all id)) (je_all rfl g.fr ?_) (fun v K h => ?_)
  · refine je_imp (je_new (jn_lc [("part", 2)] x.parts (fun (j : Nat) => vN j) (fun _ => true) (fun (j : Nat) => vB (decide ((0 : Int) ≤ (j : Int)) && decide ((j : Int) ≤ (n : Int) - 1))) rfl sc_is_value.nd (blkOk_by (by rfl)) (ji_imp (ji_tupD (je_ixT (d := dTN x.parts) (je_name 0) je_int rfl)) (by rw [List.map_map]; rfl)) (Nat.lt_of_le_of_lt h2 (by decide)) ?_)) (fun v K h => by
      rw [List.filter_eq_self.mpr (fun _ _ => rfl)] at h
      rw [List.map_map]; exact h)
    intro j hj A' O v Pc
    refine jelt1 2 sc_is_value.nd fun s H0 C cl fp => ⟨jts_nil, fun _ => ?_⟩
    exact je_call cw hr ((j : Int), 0, (n : Int) - 1) trivial (ja_cons (je_name 2) (ja_cons je_int (ja1 (je_sub (je_name 1) je_int)))) (fun _ _ _ h => h)
  · rw [show v = _ from h]
    show V.bl _ = V.bl true
    congr 1
    simp
    intro y hy
    have := h3 y hy
    omega
abbrev inWeb (CW CR : Addr) : Sp := mkIn CW (α := Wb) (fun w => Wv w) (fun w => [vD (rowsD w)]) (fun w => webV CW CR w)
theorem fi_Web (g : Gk K mg CB CW CR) (cv : Fc P w K mg base 3 "is_value" spIsValue) (F : FunD K "__init__" "Web.__init__" (defArgs s_Web_init) (defBody s_Web_init) (defScope s_Web_init) [] [] f fd) (hM : L2.Mk K CW f) : Fi P w K mg base 4 CW (inWeb CW CR) := by
  refine fi_of F hM sc_Web_init (F.bindsN fun _ _ _ _ _ _ us hl => match us, hl with | [_, _], _ => rfl) (fun _ => rfl) ?_
  intro W Fr cdv A outer s H E z dx hr ok
  replace ok : Wv W := ok
  obtain ⟨t9, i9⟩ := g.i9
  have l := ok.len
  refine js_skipB (jt_w (jw_or (jt_not (jt_val (je_isiTup g.fr (je_name 1)))) fun _ => jw_or1 (jt_gt (je_lenT g.fr (je_name 1)) (je_glob i9)))) (by simp; omega) ?_
  refine js_for (fun i Γ => Γ = ⟨[some (vE (.ref z)), some (vD (rowsD W)), none, none], [(z, oIns CW dx [])], []⟩) rfl rfl (ji_enD g.fr (je_name 1)) rfl ?_ ?_
  · rintro i P' Γ1 hP rfl v Pc
    rw [List.getElem?_map] at hP
    obtain ⟨j, e1, rfl⟩ := Option.map_eq_some_iff.mp hP
    obtain ⟨e2, e3⟩ := List.getElem?_eq_some_iff.mp e1
    rw [List.getElem_range] at e3
    subst e3
    rw [List.length_range, List.length_map] at e2
    have hD : (W.map vlD).getD i .none = vlD (M.vl W i) := getD_get (by rw [List.getElem?_map, vl_at e2]; rfl)
    refine ⟨_, _, jg_tup rfl (jgs_cons (jg_name 2 sc_Web_init.nd) (jgs_cons (jg_name 3 sc_Web_init.nd) jgs_nil)), ?_⟩
    rw [hD]
    refine js_skipB (jt_not (jt_val (je_call cv hr (M.vl W i, i) (ok.at_ i e2) (ja_cons (je_name 3) (ja1 (je_name 2))) (fun _ _ _ h => h)))) rfl ?_
    exact js_nil ⟨_, rfl, (by repeat' first | exact True.intro | refine ⟨fun _ _ h => h, ?_⟩), rfl, rfl⟩
  · rintro Γ' rfl
    refine js_fld 0 (je_name 1) (je_name 0) g.cW g.nW ?_
    exact js_nil ⟨_, rfl, fun K h => ⟨CW, .inl rfl, h⟩⟩
/-- the argument of RawWeb: a list of rows, or a dict whose keys they are -/
abbrev rawArg (P : Program) (w : World) : Wb × Option (List (D × VP)) → List VP
  | (W, none) => [vL ((W.map vlD).map vD)]
  | (_, some ps) => [vX P w ps]
abbrev inRaw (P : Program) (w : World) (CW CR : Addr) : Sp := mkIn CR (α := Wb × Option (List (D × VP))) (fun a => ∀ ps, a.2 = some ps → ps.map (·.1) = a.1.map vlD) (rawArg P w) (fun a => webV CW CR a.1)
theorem fi_Raw (g : Gk K mg CB CW CR) (F : FunD K "__init__" "RawWeb.__init__" (defArgs s_RawWeb_init) (defBody s_RawWeb_init) (defScope s_RawWeb_init) [] [] f fd) (hM : L2.Mk K CR f) : Fi P w K mg base 1 CR (inRaw P w CW CR) := by
  refine fi_of F hM sc_RawWeb_init (F.bindsN fun _ _ _ _ _ _ us hl => match us, hl with | [_, _], _ => rfl) (fun ⟨_, o⟩ => by cases o <;> rfl) ?_
  rintro ⟨W, o⟩ Fr cdv A outer s H E z dx hr hp
  cases o with
  | none =>
    refine js_fld (P := vD (rowsD W)) 0 (je_tupleD g.fr (je_name 1)) (je_name 0) g.cR g.nR ?_
    exact js_nil ⟨_, rfl, fun K h => ⟨CR, .inr rfl, h⟩⟩
  | some ps =>
    have e := hp ps rfl
    refine js_fld (P := vD (rowsD W)) 0 (je_imp (je_tupX rfl g.fr (rdy ps) (je_name 1)) fun v K h => by rw [e] at h; exact h) (je_name 0) g.cR g.nR ?_
    exact js_nil ⟨_, rfl, fun K h => ⟨CR, .inr rfl, h⟩⟩
abbrev spIsOf (CB : Addr) : Sp := mkSp (α := Bk × Vl) (fun a _ => a.2.op < a.1.ar.length ∧ a.1.ar[a.2.op]? = some a.2.parts.length) (fun a => [bookV CB a.1, vD (vlD a.2)]) (fun _ _ => vB true)
theorem fc_is_of (g : Gk K mg CB CW CR) (F : FnP K "is_of" s_is_of f fd) (gm : mg "is_of" = some (.ref f)) : Fc P w K mg base 1 "is_of" (spIsOf CB) := by
  refine fc_of F gm sc_is_of (F.bindsN fun _ _ _ _ _ _ us hl => match us, hl with | [_, _], _ => rfl) (fun _ => rfl) ?_
  rintro ⟨b, x⟩ Fr cdv A outer s E hr ⟨h1, h2⟩
  replace h1 : x.op < b.ar.length := h1
  replace h2 : b.ar[x.op]? = some x.parts.length := h2
  refine js_ret (P := vB _) (je_and (je_lt (je_ixT (d := dN x.op) (je_name 1) je_int rfl) (je_lenT (ds := b.ar.map dN) g.fr (je_ar g (je_name 0)))) fun _ => je_one (je_eqD hr (je_lenT (ds := x.parts.map dN) g.fr (je_ixT (je_name 1) je_int rfl)) (je_ixT (d := dN x.parts.length) (je_ar g (je_name 0)) (je_ixT (d := dN x.op) (je_name 1) je_int rfl) (at_map dN h2)))) (fun v K h => ?_)
  rw [show v = _ from h]
  show V.bl _ = V.bl true
  congr 1
  simp
  omega
abbrev spFits (CB CW CR : Addr) : Sp := mkSp (α := Bk × Wb) (fun a _ => M.Wok a.1 a.2) (fun a => [bookV CB a.1, webV CW CR a.2]) (fun _ _ => vB true)
theorem fc_fits (g : Gk K mg CB CW CR) (ci : Fc P w K mg base 1 "is_of" (spIsOf CB)) (F : FnP K "fits" s_fits f fd) (gm : mg "fits" = some (.ref f)) : Fc P w K mg base 2 "fits" (spFits CB CW CR) := by
  refine fc_of F gm sc_fits (F.bindsN fun _ _ _ _ _ _ us hl => match us, hl with | [_, _], _ => rfl) (fun _ => rfl) ?_
  rintro ⟨b, W⟩ Fr cdv A outer s E hr ok
  replace ok : M.Wok b W := ok
  refine js_ret (P := vB ((W.map fun _ => true).all id)) (je_all rfl g.fr ?_) (fun v K h => by rw [show v = _ from h]; show V.bl _ = V.bl true; congr 1; simp)
  refine je_imp (je_new (jn_lc [("value", 2)] W (fun x => vD (vlD x)) (fun _ => true) (fun _ => vB true) rfl sc_fits.nd (blkOk_by (by rfl)) (ji_imp (ji_tupD (je_rows g (je_name 1))) (by rw [List.map_map]; rfl)) (Nat.lt_of_le_of_lt ok.len (by decide)) ?_)) (fun v K h => by
    rw [List.filter_eq_self.mpr (fun _ _ => rfl)] at h
    rw [List.map_map]; exact h)
  intro x hx A' O v Pc
  obtain ⟨i, hi, rfl⟩ := vl_mem hx
  refine jelt1 2 sc_fits.nd fun s H0 C cl fp => ⟨jts_nil, fun _ => ?_⟩
  exact je_call ci (hr.mono (by decide)) (b, M.vl W i) ⟨(ok.at_ i hi).1, (ok.at_ i hi).2.1⟩ (ja_cons (je_name 0) (ja1 (je_name 2))) (fun _ _ _ h => h)
abbrev spCheckWeb (CB CW CR : Addr) : Sp := mkSp (α := Bk × Wb) (fun a _ => M.Wok a.1 a.2) (fun a => [bookV CB a.1, webV CW CR a.2]) (fun _ _ => vNone)
theorem fc_check_web (g : Gk K mg CB CW CR) (ci : Fc P w K mg base 2 "fits" (spFits CB CW CR)) (F : FnP K "check_web" s_check_web f fd) (gm : mg "check_web" = some (.ref f)) : Fc P w K mg base 3 "check_web" (spCheckWeb CB CW CR) := by
  refine fc_of F gm sc_check_web (F.bindsN fun _ _ _ _ _ _ us hl => match us, hl with | [_, _], _ => rfl) (fun _ => rfl) ?_
  rintro ⟨b, W⟩ Fr cdv A outer s E hr ok
  refine js_skipB (jt_w (jw_or (jt_not (jt_val (je_isWeb g (je_name 1)))) fun _ => jw_or1 (jt_not (jt_val (je_call ci (hr.mono (by decide)) (b, W) ok (ja_cons (je_name 0) (ja1 (je_name 1))) (fun _ _ _ h => h)))))) rfl ?_
  exact js_nil fun K => vD_none.mpr rfl
abbrev spCheckValue (CW CR : Addr) : Sp := mkSp (α := Wb × Nat) (fun a _ => a.2 < a.1.length) (fun a => [webV CW CR a.1, vN a.2]) (fun _ _ => vNone)
theorem fc_check_value (g : Gk K mg CB CW CR) (cw : Fc P w K mg base 2 "is_within" spIsWithin) (F : FnP K "check_value" s_check_value f fd) (gm : mg "check_value" = some (.ref f)) : Fc P w K mg base 3 "check_value" (spCheckValue CW CR) := by
  refine fc_of F gm sc_check_value (F.bindsN fun _ _ _ _ _ _ us hl => match us, hl with | [_, _], _ => rfl) (fun _ => rfl) ?_
  rintro ⟨W, n⟩ Fr cdv A outer s E hr ok
  replace ok : n < W.length := ok
  refine js_skipB (jt_not (jt_val (je_call cw (hr.mono (by decide)) ((n : Int), 0, (W.length : Int) - 1) trivial (ja_cons (je_name 1) (ja_cons je_int (ja1 (je_sub (je_imp (je_lenT g.fr (je_rows g (je_name 0))) (fun v K h => by rw [List.length_map] at h; exact h)) je_int)))) (fun _ _ _ h => h)))) (by simp; omega) ?_
  exact js_nil fun K => vD_none.mpr rfl
end
end Lk
end

section
set_option Elab.async false
set_option linter.all false
set_option maxRecDepth 100000
set_option maxHeartbeats 1000000
/-! Ways, needs. -/
namespace Lk
open PySem PySem.Spec L2
open PyProof.Rows hiding St
open Evl (Ex)
open M (Bk Rl Mv Vl Wb Wy)
theorem dN_dec (m n : Nat) : decide (dN m = dN n) = decide (m = n) := decide_eq_decide.mpr ⟨dN_inj, fun h => by rw [h]⟩
theorem encT_fn (t : Thg) : Fn 1 (encT t) := Fn.tup (n := 0) (all_cons (.num _) (all_cons (.num _) all_nil))
theorem encT_d8 (t : Thg) : (encT t).depth ≤ 8 := Nat.le_trans (encT_fn t).2 (by decide)
theorem wyD_fn (y : Wy) : Fn 1 (wyD y) := by
  cases y with
  | mv n => exact Fn.tup (n := 0) (all_cons (.text (by decide +kernel)) (all_cons (.num _) all_nil))
  | ru n => exact Fn.tup (n := 0) (all_cons (.text (by decide +kernel)) (all_cons (.num _) all_nil))
theorem wyD_fine (y : Wy) : fine (wyD y) = true := (wyD_fn y).fine (by decide)
theorem sMove_ne : sMove ≠ sRule := by decide +kernel
theorem wyD_inj {x y : Wy} (h : wyD x = wyD y) : x = y := by
  cases x <;> cases y <;> simp only [wyD] at h
  · injection h with h; injection h with _ h; injection h with h; rw [dN_inj h]
  · injection h with h; injection h with h; injection h with h; exact absurd h sMove_ne
  · injection h with h; injection h with h; injection h with h; exact absurd h sMove_ne.symm
  · injection h with h; injection h with _ h; injection h with h; rw [dN_inj h]
abbrev wysV (l : List Wy) : List VP := l.map fun y => vD (wyD y)
abbrev thsV (l : List Thg) : List VP := l.map fun t => vD (encT t)
theorem mo_at {b : Bk} {n : Nat} (h : n < b.mv.length) : b.mv[n]? = some (b.mo n) := by rw [M.Bk.mo, List.getD_eq_getElem?_getD, List.getElem?_eq_getElem h]; rfl
theorem rl_at {b : Bk} {n : Nat} (h : n < b.ru.length) : b.ru[n]? = some (b.rl n) := by rw [M.Bk.rl, List.getD_eq_getElem?_getD, List.getElem?_eq_getElem h]; rfl
theorem js_ifLast {F : Fm} {X : Cx} {Γ : Ct} {c : Expr} {body els : List Stmt} {pos : Pos} {D : PD} {B : Bool → Prop} (hc : JT F X Γ c B) (ha : B true → JS F X Γ body D) (hb : B false → JS F X Γ els D) : JS F X Γ [.If c body els pos] D := js_if D.nx hc ha hb fun Γ' h => js_nil h
section
variable {P : Program} {w : World} {K : PySem.W.Frag} {mg : Str → Option Value} {base : Heap} {f : Addr} {fd : FuncData} {CB CW CR : Addr}
abbrev spWaysOf (CB : Addr) : Sp := mkSp (α := Bk × Nat × Nat) (fun a _ => a.1.ok) (fun a => [bookV CB a.1, vN a.2.1, vN a.2.2]) (fun a _ => vL (wysV (M.waysOf a.1 a.2.1 a.2.2)))
theorem fc_ways_of_op (g : Gk K mg CB CW CR) (F : FnP K "ways_of_op" s_ways_of_op f fd) (gm : mg "ways_of_op" = some (.ref f)) : Fc P w K mg base 1 "ways_of_op" (spWaysOf CB) := by
  refine fc_of F gm sc_ways_of_op (F.bindsN fun _ _ _ _ _ _ us hl => match us, hl with | [_, _, _], _ => rfl) (fun _ => rfl) ?_
  rintro ⟨b, op, kind⟩ Fr cdv A outer s E hr ok
  replace ok : b.ok := ok
  have m20 := ok.mv20
  have r40 := ok.ru40
  refine js_setLc 3 [("number", 4), ("move", 6)] (List.range b.mv.length) (fun i => vT [vN i, vD (mvD (b.mo i))]) (fun i => decide ((b.mo i).to = kind)) (fun i => vD (wyD (.mv i))) rfl sc_ways_of_op.nd (blkOk_by (by rfl)) (ji_imp (ji_enD g.fr (je_mvs g (je_name 0))) ?_) ?_ ?_ (fun p => ?_) (sw_true rfl rfl rfl rfl)
  · rw [List.length_map]
    apply List.map_congr_left
    intro i hi
    rw [getD_get (by rw [List.getElem?_map, mo_at (List.mem_range.mp hi)]; rfl)]
  · rw [List.length_range]; exact Nat.lt_of_le_of_lt m20 (by decide)
  · intro i hi A' O v Pc
    refine jelt2 4 6 rfl sc_ways_of_op.nd fun s H0 C cl fp => ⟨jts_one (jt_imp (jt_eqD hr (je_ixT (ds := [dN (b.mo i).frm, dN (b.mo i).to, dN (b.mo i).pr]) (je_name 6) je_int rfl) (je_name 2)) fun c h => h.trans (dN_dec _ _)), fun _ => ?_⟩
    exact je_tupD (ds := [.text sMove, dN i]) (ja_cons je_str (ja1 (je_name 4)))
  refine js_for (fun i Γ => Γ = ⟨[some (bookV CB b), some (vN op), some (vN kind), some (vE (.ref p)), none, none, none], [(p, oL (wysV (((List.range b.mv.length).filter fun n => decide ((b.mo n).to = kind)).map Wy.mv ++ ((List.range i).filter fun n => decide ((b.rl n).op = op) && decide ((b.rl n).dst = kind)).map Wy.ru)))], []⟩) rfl rfl (ji_enD g.fr (je_rus g (je_name 0))) ?_ ?_ ?_
  · simp [Ct.add, startI, wysV, List.map_map]
    rfl
  · rintro i P' Γ1 hP rfl v Pc
    rw [List.getElem?_map] at hP
    obtain ⟨j, e1, rfl⟩ := Option.map_eq_some_iff.mp hP
    obtain ⟨e2, e3⟩ := List.getElem?_eq_some_iff.mp e1
    rw [List.getElem_range] at e3
    subst e3
    rw [List.length_range, List.length_map] at e2
    have e2 : i < b.ru.length := e2
    have hD : (b.ru.map rlD).getD i .none = rlD (b.rl i) := getD_get (by rw [List.getElem?_map, rl_at e2]; rfl)
    refine ⟨_, _, jg_tup rfl (jgs_cons (jg_name 4 sc_ways_of_op.nd) (jgs_cons (jg_name 5 sc_ways_of_op.nd) jgs_nil)), ?_⟩
    rw [hD]
    refine js_ifLast (jt_w (jw_and (jt_eqD hr (je_ixT (ds := [dN (b.rl i).op, dTN (b.rl i).src, dN (b.rl i).dst, dN (b.rl i).pr]) (je_name 5) je_int rfl) (je_name 1)) fun _ => jw_and1 (jt_eqD hr (je_ixT (ds := [dN (b.rl i).op, dTN (b.rl i).src, dN (b.rl i).dst, dN (b.rl i).pr]) (je_name 5) je_int rfl) (je_name 2)))) (fun hb => ?_) fun hb => ?_
    · rw [dN_dec, dN_dec] at hb
      refine js_append 0 (je_name 3) (je_tupD (ds := [.text sRule, dN i]) (ja_cons je_str (ja1 (je_name 4)))) ?_ ?_
      · simp only [wysV, List.length_map, List.length_append]
        have l1 := List.length_filter_le (fun n => decide ((b.mo n).to = kind)) (List.range b.mv.length)
        have l2 := List.length_filter_le (fun n => decide ((b.rl n).op = op) && decide ((b.rl n).dst = kind)) (List.range i)
        rw [List.length_range] at l1 l2
        exact Nat.lt_of_le_of_lt (by omega : _ ≤ 60) (by decide)
      · refine js_nil ⟨_, rfl, (by repeat' first | exact True.intro | refine ⟨fun _ _ h => h, ?_⟩), ?_, rfl⟩
        rw [List.range_succ, List.filter_append, List.filter_cons, ← hb]
        simp [wysV, wyD]
    · rw [dN_dec, dN_dec] at hb
      refine js_nil ⟨_, rfl, (by repeat' first | exact True.intro | refine ⟨fun _ _ h => h, ?_⟩), ?_, rfl⟩
      rw [List.range_succ, List.filter_append, List.filter_cons, ← hb]
      simp
  · rintro Γ' rfl
    refine js_show 3 0 rfl rfl (js_ret (je_name 3) fun v K h => ?_)
    have h : (vL _).p v K := h
    simp only [List.length_map, List.length_range] at h
    exact h
abbrev spRawWays (CB CW CR : Addr) : Sp := mkSp (α := Bk × Wb × Thg) (fun a _ => a.1.ok ∧ a.2.2.1 < a.2.1.length) (fun a => [bookV CB a.1, webV CW CR a.2.1, vD (encT a.2.2)]) (fun a _ => vL (wysV (M.ways a.1 a.2.1 a.2.2)))
theorem fc_raw_ways (g : Gk K mg CB CW CR) (c : Fc P w K mg base 1 "ways_of_op" (spWaysOf CB)) (F : FnP K "raw_ways" s_raw_ways f fd) (gm : mg "raw_ways" = some (.ref f)) : Fc P w K mg base 2 "raw_ways" (spRawWays CB CW CR) := by
  refine fc_of F gm sc_raw_ways (F.bindsN fun _ _ _ _ _ _ us hl => match us, hl with | [_, _, _], _ => rfl) (fun _ => rfl) ?_
  rintro ⟨b, W, t⟩ Fr cdv A outer s E hr ⟨ok, ht⟩
  replace ht : t.1 < W.length := ht
  exact js_ret (je_call c hr (b, (M.vl W t.1).op, t.2) ok (ja_cons (je_name 0) (ja_cons (je_ixT (ds := [dN (M.vl W t.1).op, dTN (M.vl W t.1).parts]) (je_ixT (d := vlD (M.vl W t.1)) (je_rows g (je_name 1)) (je_ixT (d := dN t.1) (je_name 2) je_int rfl) (at_map vlD (vl_at ht))) je_int rfl) (ja1 (je_ixT (d := dN t.2) (je_name 2) je_int rfl)))) (fun _ _ _ h => h)) fun _ _ h => h
/-! needs -/
abbrev Nd (b : Bk) (W : Wb) (t : Thg) (y : Wy) : Prop := b.ok ∧ M.Wok b W ∧ t.1 < W.length ∧ y ∈ M.ways b W t
theorem nd_len {b : Bk} {W : Wb} {t : Thg} {n : Nat} (h : Nd b W t (.ru n)) : n < b.ru.length ∧ (M.vl W t.1).parts.length = (b.rl n).src.length := by
  obtain ⟨ok, wok, ht, hy⟩ := h
  rcases M.mem_waysOf.mp hy with ⟨m, e, _⟩ | ⟨m, e, h1, h2, h3⟩
  · cases e
  · cases e
    have := (ok.rl (b.rl n) (M.getD_mem h1)).2.2.1
    have h4 := (wok.at_ t.1 ht).2.1
    have h5 : b.ar[(b.rl n).op]? = some (b.rl n).src.length := this
    rw [h2, h4] at h5
    exact ⟨h1, Option.some.inj h5⟩
theorem nd_mv {b : Bk} {W : Wb} {t : Thg} {n : Nat} (h : Nd b W t (.mv n)) : n < b.mv.length := by
  obtain ⟨ok, wok, ht, hy⟩ := h
  rcases M.mem_waysOf.mp hy with ⟨m, e, h1, _⟩ | ⟨m, e, _⟩
  · cases e; exact h1
  · cases e
theorem needs_len {b : Bk} {W : Wb} {t : Thg} {y : Wy} (h : Nd b W t y) : (M.needs b W t y).length ≤ 2 := by
  cases y with
  | mv n => exact Nat.le_succ 1
  | ru n =>
    show (List.zip _ _).length ≤ 2
    rw [List.length_zip]
    exact Nat.le_trans (Nat.min_le_left _ _) ((wv_of h.1 h.2.1).at_ t.1 h.2.2.1).2.1
abbrev spNeeds (CB CW CR : Addr) : Sp := mkSp (α := Bk × Wb × Thg × Wy) (fun a _ => Nd a.1 a.2.1 a.2.2.1 a.2.2.2) (fun a => [bookV CB a.1, webV CW CR a.2.1, vD (encT a.2.2.1), vD (wyD a.2.2.2)]) (fun a _ => vL (thsV (M.needs a.1 a.2.1 a.2.2.1 a.2.2.2)))
theorem fc_needs_in_order (g : Gk K mg CB CW CR) (F : FnP K "needs_in_order" s_needs_in_order f fd) (gm : mg "needs_in_order" = some (.ref f)) : Fc P w K mg base 1 "needs_in_order" (spNeeds CB CW CR) := by
  refine fc_of F gm sc_needs_in_order (F.bindsN fun _ _ _ _ _ _ us hl => match us, hl with | [_, _, _, _], _ => rfl) (fun _ => rfl) ?_
  rintro ⟨b, W, t, y⟩ Fr cdv A outer s E hr hn
  replace hn : Nd b W t y := hn
  cases y with
  | mv n =>
    have h1 := nd_mv hn
    refine js_if (fun _ => False) (jt_eqD hr (je_ixT (d := .text sMove) (je_name 3) je_int rfl) je_str fine_move fine_move) (fun _ => ?_) (fun z => nomatch z) (fun _ h => h.elim)
    exact js_ret (je_new (jn_lst (ja1 (je_tupD (ds := [dN t.1, dN (b.mo n).frm]) (ja_cons (je_ixT (d := dN t.1) (je_name 2) je_int rfl) (ja1 (je_ixT (ds := [dN (b.mo n).frm, dN (b.mo n).to, dN (b.mo n).pr]) (je_ixT (d := mvD (b.mo n)) (je_mvs g (je_name 0)) (je_ixT (d := dN n) (je_name 3) je_int rfl) (at_map mvD (mo_at h1))) je_int rfl))))))) fun v K h => h
  | ru n =>
    obtain ⟨h1, h2⟩ := nd_len hn
    have ht := hn.2.2.1
    refine js_skipB (jt_eqD hr (je_ixT (d := .text sRule) (je_name 3) je_int rfl) je_str fine_rule fine_move) (decide_eq_false fun h => by injection h with h; exact sMove_ne h.symm) ?_
    refine js_ret (je_new (jn_zip (ds := (M.vl W t.1).parts.map dN) (es := (b.rl n).src.map dN) rfl g.fr (je_ixT (ds := [dN (M.vl W t.1).op, dTN (M.vl W t.1).parts]) (je_ixT (d := vlD (M.vl W t.1)) (je_rows g (je_name 1)) (je_ixT (d := dN t.1) (je_name 2) je_int rfl) (at_map vlD (vl_at ht))) je_int rfl)
      (je_ixT (ds := [dN (b.rl n).op, dTN (b.rl n).src, dN (b.rl n).dst, dN (b.rl n).pr]) (je_ixT (d := rlD (b.rl n)) (je_rus g (je_name 0)) (je_ixT (d := dN n) (je_name 3) je_int rfl) (at_map rlD (rl_at h1))) je_int rfl) (by rw [List.length_map, List.length_map]; exact h2))) fun v K h => ?_
    have e : (((M.vl W t.1).parts.map dN).zip ((b.rl n).src.map dN)).map (fun q => vD (.tup [q.1, q.2])) = thsV (M.needs b W t (.ru n)) := by
      rw [List.zip_map, List.map_map]
      rfl
    have h : (vL _).p v K := h
    rw [e] at h
    exact h
abbrev spIsUsable (P : Program) (w : World) (CB CW CR : Addr) : Sp := mkSp (α := Bk × Wb × Thg × Wy × List (D × VP)) (fun a _ => Nd a.1 a.2.1 a.2.2.1 a.2.2.2.1) (fun a => [bookV CB a.1, webV CW CR a.2.1, vD (encT a.2.2.1), vD (wyD a.2.2.2.1), vX P w a.2.2.2.2]) (fun a _ => vB ((M.needs a.1 a.2.1 a.2.2.1 a.2.2.2.1).all fun n => (lk a.2.2.2.2 (encT n)).isSome))
theorem fc_is_usable (g : Gk K mg CB CW CR) (c : Fc P w K mg base 1 "needs_in_order" (spNeeds CB CW CR)) (F : FnP K "is_usable" s_is_usable f fd) (gm : mg "is_usable" = some (.ref f)) : Fc P w K mg base 2 "is_usable" (spIsUsable P w CB CW CR) := by
  refine fc_of F gm sc_is_usable (F.bindsN fun _ _ _ _ _ _ us hl => match us, hl with | [_, _, _, _, _], _ => rfl) (fun _ => rfl) ?_
  rintro ⟨b, W, t, y, ps⟩ Fr cdv A outer s E hr hn
  replace hn : Nd b W t y := hn
  refine js_ret (P := vB (((M.needs b W t y).map fun n => (lk ps (encT n)).isSome).all id)) (je_all rfl g.fr ?_) (fun v K h => by rw [show v = _ from h, List.all_map]; rfl)
  refine je_imp (je_new (jn_lc [("need", 5)] (M.needs b W t y) (fun n => vD (encT n)) (fun _ => true) (fun n => vB (lk ps (encT n)).isSome) rfl sc_is_usable.nd (blkOk_by (by rfl)) (ji_lst (je_call c hr (b, W, t, y) hn (ja_cons (je_name 0) (ja_cons (je_name 1) (ja_cons (je_name 2) (ja1 (je_name 3))))) (fun _ _ _ h => h))) (Nat.lt_of_le_of_lt (needs_len hn) (by decide)) ?_)) (fun v K h => by
    rw [List.filter_eq_self.mpr (fun _ _ => rfl)] at h
    rw [List.map_map]; exact h)
  intro n hn' A' O v Pc
  exact jelt1 5 sc_is_usable.nd fun s H0 C cl fp => ⟨jts_nil, fun _ => je_in hr (rdx ps) (je_name 5) (je_name 4) rfl (encT_d8 n)⟩
end
end Lk
end

section
set_option Elab.async false
set_option linter.all false
set_option maxHeartbeats 1000000
/-! Rounds that find: n kinds, n rounds, each kind asked in its turn. -/
namespace Lk.M
section
variable (us : (Nat → Bool) → Nat → Bool)
def ins (T : Nat → Bool) (j : Nat) : Nat → Bool := fun i => i == j || T i
def scan (T : Nat → Bool) : Nat → Nat → Bool
  | 0 => T
  | j + 1 => if us (scan T j) j = true then ins (scan T j) j else scan T j
def rounds (n : Nat) : Nat → Nat → Bool
  | 0 => fun _ => false
  | r + 1 => scan us (rounds n r) n
def Sub (S T : Nat → Bool) : Prop := ∀ i, S i = true → T i = true
def Mono : Prop := ∀ S T, Sub S T → ∀ j, us S j = true → us T j = true
variable {us}
theorem Sub.refl (T : Nat → Bool) : Sub T T := fun _ h => h
theorem Sub.trans {S T U : Nat → Bool} (a : Sub S T) (b : Sub T U) : Sub S U := fun i h => b i (a i h)
theorem sub_ins (T : Nat → Bool) (j : Nat) : Sub T (ins T j) := fun i h => by unfold ins; rw [h, Bool.or_true]
theorem ins_self (T : Nat → Bool) (j : Nat) : ins T j j = true := by simp [ins]
theorem ins_ne {T : Nat → Bool} {i j : Nat} (h : i ≠ j) : ins T j i = T i := by simp [ins, h]
theorem scan_succ (T : Nat → Bool) (j : Nat) : scan us T (j + 1) = if us (scan us T j) j = true then ins (scan us T j) j else scan us T j := rfl
theorem scan_step (T : Nat → Bool) (j : Nat) : Sub (scan us T j) (scan us T (j + 1)) := by
  rw [scan_succ]
  split
  · exact sub_ins _ _
  · exact Sub.refl _
theorem scan_le (T : Nat → Bool) {i j : Nat} (h : i ≤ j) : Sub (scan us T i) (scan us T j) := by
  induction h with
  | refl => exact Sub.refl _
  | step _ ih => exact ih.trans (scan_step T _)
theorem scan_from (T : Nat → Bool) (j : Nat) : Sub T (scan us T j) := scan_le T (Nat.zero_le j)
/-- what is found was asked and found usable -/
theorem scan_new {T : Nat → Bool} {n i : Nat} (h : scan us T n i = true) (h0 : T i = false) : i < n ∧ us (scan us T i) i = true := by
  induction n with
  | zero => rw [show scan us T 0 = T from rfl] at h; rw [h0] at h; cases h
  | succ n ih =>
    rw [scan_succ] at h
    split at h
    · rename_i hu
      by_cases e : i = n
      · subst e; exact ⟨Nat.lt_succ_self _, hu⟩
      · rw [ins_ne e] at h
        exact ⟨Nat.lt_succ_of_lt (ih h).1, (ih h).2⟩
    · exact ⟨Nat.lt_succ_of_lt (ih h).1, (ih h).2⟩
theorem scan_found {T : Nat → Bool} {n i : Nat} (hi : i < n) (h : us (scan us T i) i = true) : scan us T n i = true := by
  refine scan_le T hi i ?_
  rw [scan_succ, if_pos h]
  exact ins_self _ _
variable (mono : Mono us)
def closed (us : (Nat → Bool) → Nat → Bool) (n : Nat) (T : Nat → Bool) : Prop := ∀ j, j < n → us T j = true → T j = true
def count (n : Nat) (T : Nat → Bool) : Nat := ((List.range n).filter T).length
theorem count_le (n : Nat) (T : Nat → Bool) : count n T ≤ n := by
  unfold count
  exact Nat.le_trans (List.length_filter_le _ _) (by rw [List.length_range]; exact Nat.le_refl _)
theorem count_succ (n : Nat) (T : Nat → Bool) : count (n + 1) T = count n T + if T n = true then 1 else 0 := by
  unfold count
  rw [List.range_succ, List.filter_append, List.length_append]
  by_cases h : T n = true
  · simp [h]
  · simp [h]
theorem count_mono {n : Nat} {S T : Nat → Bool} (h : Sub S T) : count n S ≤ count n T := by
  induction n with
  | zero => exact Nat.le_refl _
  | succ n ih =>
    rw [count_succ, count_succ]
    by_cases e : S n = true
    · rw [if_pos e, if_pos (h n e)]; omega
    · rw [if_neg e]; split <;> omega
theorem count_lt {n : Nat} {S T : Nat → Bool} (h : Sub S T) {i : Nat} (hi : i < n) (h1 : S i = false) (h2 : T i = true) : count n S < count n T := by
  induction n with
  | zero => exact absurd hi (Nat.not_lt_zero _)
  | succ n ih =>
    rw [count_succ, count_succ]
    by_cases e : i = n
    · subst e
      have := count_mono (n := i) h
      rw [if_pos h2, if_neg (by rw [h1]; exact fun z => nomatch z)]
      omega
    · have := ih (by omega)
      by_cases e2 : S n = true
      · rw [if_pos e2, if_pos (h n e2)]; omega
      · rw [if_neg e2]; split <;> omega
/-- two new ones -/
theorem count_two {n : Nat} {S T : Nat → Bool} (h : Sub S T) {i j : Nat} (hi : i < n) (hj : j < n) (hij : i ≠ j) (h1 : S i = false) (h2 : T i = true) (h3 : S j = false) (h4 : T j = true) : count n S + 2 ≤ count n T := by
  have a : count n S < count n (ins S i) := count_lt (sub_ins S i) hi h1 (ins_self S i)
  have b : count n (ins S i) < count n T := count_lt (fun k hk => by
    by_cases e : k = i
    · rw [e]; exact h2
    · rw [ins_ne e] at hk; exact h k hk) hj (by rw [ins_ne (Ne.symm hij)]; exact h3) h4
  omega
theorem count_full {n : Nat} {T : Nat → Bool} (h : count n T = n) {i : Nat} (hi : i < n) : T i = true := by
  cases e : T i with
  | true => rfl
  | false =>
    have := count_lt (n := n) (S := T) (T := fun _ => true) (fun _ _ => rfl) hi e rfl
    have := count_le n (fun _ => true)
    omega
include mono
/-- a round finds something unless all is found -/
theorem round_finds {n : Nat} {T : Nat → Bool} (h : ¬ closed us n T) : ∃ i, i < n ∧ T i = false ∧ us T i = true ∧ scan us T n i = true ∧ ∀ k, k < i → scan us T k = T ∧ (us T k = true → T k = true) := by
  have hex : ∃ i, i < n ∧ us T i = true ∧ T i = false := by
    apply Classical.byContradiction
    intro hn
    refine h fun j hj hu => ?_
    cases e : T j with
    | true => rfl
    | false => exact absurd ⟨j, hj, hu, e⟩ hn
  obtain ⟨i, ⟨h1, h2, h3⟩, hmin⟩ := least hex
  have ext : ∀ k, k ≤ i → scan us T k = T := by
    intro k
    induction k with
    | zero => intro _; rfl
    | succ k ih =>
      intro hk
      have hk0 := ih (by omega)
      rw [scan_succ, hk0]
      split
      · rename_i hu
        have : T k = true := by
          cases e : T k with
          | true => rfl
          | false => have := hmin k ⟨by omega, hu, e⟩; omega
        funext j
        by_cases e : j = k
        · subst e; rw [ins_self, this]
        · rw [ins_ne e]
      · rfl
  refine ⟨i, h1, h3, h2, scan_found h1 (by rw [ext i (Nat.le_refl _)]; exact h2), fun k hk => ⟨ext k (Nat.le_of_lt hk), fun hu => ?_⟩⟩
  cases e : T k with
  | true => rfl
  | false => have := hmin k ⟨by omega, hu, e⟩; omega
theorem closed_scan {n : Nat} {T : Nat → Bool} (h : closed us n T) : ∀ k, k ≤ n → ∀ i, scan us T k i = T i := by
  intro k
  induction k with
  | zero => intro _ i; rfl
  | succ k ih =>
    intro hk i
    have e : scan us T k = T := funext (ih (by omega))
    rw [scan_succ, e]
    split
    · rename_i hu
      by_cases q : i = k
      · subst q; rw [ins_self, h i (by omega) hu]
      · rw [ins_ne q]
    · rfl
theorem closed_next {n : Nat} {T : Nat → Bool} (h : closed us n T) : scan us T n = T := funext (closed_scan mono h n (Nat.le_refl _))
/-- what is known after r rounds -/
theorem rounds_know (n r : Nat) : ¬ closed us n (rounds us n r) → r ≤ count n (rounds us n r) ∧ (count n (rounds us n r) = r → ∀ k, k < n → rounds us n r k = false → us (rounds us n r) k = true → k + r < n) := by
  induction r with
  | zero => exact fun _ => ⟨Nat.zero_le _, fun _ k hk _ _ => hk⟩
  | succ r ih =>
    intro hn
    have hn0 : ¬ closed us n (rounds us n r) := fun h => hn (by show closed us n (scan us (rounds us n r) n); rw [closed_next mono h]; exact h)
    obtain ⟨c1, c2⟩ := ih hn0
    obtain ⟨i, h1, h2, h3, h4, h5⟩ := round_finds mono hn0
    have sub : Sub (rounds us n r) (rounds us n (r + 1)) := scan_from _ n
    have lt := count_lt sub h1 h2 (show rounds us n (r + 1) i = true from h4)
    refine ⟨by omega, fun hc k hk hk0 hu => ?_⟩
    have hir := c2 (by omega) i h1 h2 h3
    -- k was not found though asked: it stands before i
    have hki : k < i := by
      rcases Nat.lt_trichotomy k i with z | z | z
      · exact z
      · subst z; rw [show rounds us n (r + 1) k = true from h4] at hk0; cases hk0
      · exfalso
        have eq : ∀ j, rounds us n (r + 1) j = true → scan us (rounds us n r) k j = true := fun j hj => by
          cases e : rounds us n r j with
          | true => exact scan_from _ k j e
          | false =>
            have hjn : j < n := (scan_new (show scan us (rounds us n r) n j = true from hj) e).1
            by_cases q : j = i
            · subst q; exact scan_found z (by
                have := (scan_new (show scan us (rounds us n r) n j = true from hj) e).2
                exact this)
            · have := count_two sub h1 hjn (Ne.symm q) h2 (show rounds us n (r + 1) i = true from h4) e hj
              omega
        have : us (scan us (rounds us n r) k) k = true := mono _ _ (fun j hj => eq j hj) k hu
        rw [show rounds us n (r + 1) k = true from scan_found hk this] at hk0
        cases hk0
    omega
theorem rounds_closed (n : Nat) : closed us n (rounds us n n) := by
  apply Classical.byContradiction
  intro h
  have := (rounds_know mono n n h).1
  have c := count_le n (rounds us n n)
  have e : count n (rounds us n n) = n := by omega
  exact h fun j hj _ => count_full e hj
/-- in the last round each kind sees all the others that are found -/
theorem last_round {n : Nat} {k i : Nat} (hk : k < n) (hi : i ≠ k) : scan us (rounds us n (n - 1)) k i = rounds us n n i := by
  have hn : n - 1 + 1 = n := by omega
  have e : rounds us n n = scan us (rounds us n (n - 1)) n := by
    rw [show rounds us n n = rounds us n (n - 1 + 1) by rw [hn]]
    rfl
  by_cases h : closed us n (rounds us n (n - 1))
  · rw [e, closed_next mono h, closed_scan mono h k (Nat.le_of_lt hk)]
  · obtain ⟨c1, c2⟩ := rounds_know mono n (n - 1) h
    obtain ⟨j, h1, h2, h3, h4, h5⟩ := round_finds mono h
    have lt := count_lt (scan_from (us := us) (rounds us n (n - 1)) n) h1 h2 h4
    have le := count_le n (scan us (rounds us n (n - 1)) n)
    have j0 : j = 0 := by have := c2 (by omega) j h1 h2 h3; omega
    subst j0
    -- all that is new is 0
    cases q : rounds us n n i with
    | true =>
      cases z : rounds us n (n - 1) i with
      | true => exact scan_from _ k i z
      | false =>
        rw [e] at q
        obtain ⟨hin, _⟩ := scan_new q z
        by_cases y : i = 0
        · subst y
          exact scan_found (by omega) (by show us (rounds us n (n - 1)) 0 = true; exact h3)
        · have := count_two (scan_from (us := us) (rounds us n (n - 1)) n) h1 hin (Ne.symm y) h2 h4 z q
          omega
    | false =>
      cases z : scan us (rounds us n (n - 1)) k i with
      | false => rfl
      | true =>
        have := scan_le (us := us) (rounds us n (n - 1)) (Nat.le_of_lt hk) i z
        rw [e, this] at q
        cases q
/-- what is found is usable -/
theorem found_us {n : Nat} (r : Nat) : ∀ i, rounds us n r i = true → us (rounds us n r) i = true := by
  induction r with
  | zero => exact fun i h => nomatch h
  | succ r ih =>
    intro i h
    cases e : rounds us n r i with
    | true => exact mono _ _ (scan_from _ n) i (ih i e)
    | false =>
      obtain ⟨h1, h2⟩ := scan_new (show scan us (rounds us n r) n i = true from h) e
      exact mono _ _ (scan_le _ (Nat.le_of_lt h1)) i h2
theorem scan_us {n r k : Nat} (h : scan us (rounds us n r) k k = true) : us (scan us (rounds us n r) k) k = true := by
  cases e : rounds us n r k with
  | true => exact mono _ _ (scan_from _ k) k (found_us mono r k e)
  | false => exact absurd (scan_new h e).1 (Nat.lt_irrefl _)
end
end Lk.M
end

section
set_option Elab.async false
set_option linter.all false
set_option maxHeartbeats 1000000
/-! What the rounds over the kinds of a value find. -/
namespace Lk.M
theorem nodup_len {α : Type} [DecidableEq α] : ∀ {l m : List α}, l.Nodup → (∀ x ∈ l, x ∈ m) → l.length ≤ m.length
  | [], _, _, _ => Nat.zero_le _
  | a :: l, m, nd, h => by
    have ha : a ∈ m := h a (List.mem_cons_self ..)
    have := nodup_len (l := l) (m := m.erase a) (List.nodup_cons.mp nd).2 fun x hx => by
      refine (List.mem_erase_of_ne ?_).mpr (h x (List.mem_cons_of_mem _ hx))
      intro e
      subst e
      exact (List.nodup_cons.mp nd).1 hx
    rw [List.length_erase_of_mem ha] at this
    have := List.length_pos_of_mem ha
    rw [List.length_cons]
    omega
theorem allT_len (b : Bk) (n : Nat) : (allT b n).length = n * b.kn := by
  induction n with
  | zero => simp [allT]
  | succ n ih =>
    unfold allT at ih ⊢
    rw [List.range_succ, List.flatMap_append, List.length_append, ih, Nat.succ_mul]
    simp
section
variable {b : Bk} {w : Wb}
theorem needs_mv {ok : b.ok} {t : Th} {n : Nat} (h : Wy.mv n ∈ ways b w t) : (b.mo n).frm < b.kn ∧ (b.mo n).frm ≠ t.2 := by
  rcases mem_waysOf.mp h with ⟨m, e, h1, h2⟩ | ⟨m, e, _⟩
  · cases e
    obtain ⟨a, c, d, _⟩ := ok.mo _ (getD_mem (d := default) h1)
    refine ⟨a, ?_⟩
    rw [← h2]
    exact d
  · cases e
theorem needs_ru {ok : b.ok} (wok : Wok b w) {t x : Th} {n : Nat} (ht : t.1 < w.length) (h : Wy.ru n ∈ ways b w t) (hx : x ∈ needs b w t (.ru n)) : x.1 < t.1 ∧ x.2 < b.kn := by
  obtain ⟨h1, h2⟩ := List.of_mem_zip (show (x.1, x.2) ∈ List.zip (vl w t.1).parts (b.rl n).src from hx)
  rcases mem_waysOf.mp h with ⟨m, e, _⟩ | ⟨m, e, g1, g2, g3⟩
  · cases e
  · cases e
    exact ⟨(wok.at_ t.1 ht).2.2 _ h1, (ok.rl _ (getD_mem (d := default) g1)).2.1 _ h2⟩
open Classical in
noncomputable def inS (b : Bk) (w : Wb) (v : Nat) (T : Nat → Bool) (t : Th) : Bool := decide (Mk b w t ∧ t.1 < v) || (t.1 == v && T t.2)
noncomputable def us (b : Bk) (w : Wb) (v : Nat) (T : Nat → Bool) (j : Nat) : Bool := (ways b w (v, j)).any fun y => (needs b w (v, j) y).all fun n => inS b w v T n
theorem inS_sub {v : Nat} {S T : Nat → Bool} (h : Sub S T) {t : Th} (ht : inS b w v S t = true) : inS b w v T t = true := by
  unfold inS at ht ⊢
  simp only [Bool.or_eq_true, Bool.and_eq_true] at ht ⊢
  exact ht.imp id fun z => ⟨z.1, h _ z.2⟩
theorem us_mono (b : Bk) (w : Wb) (v : Nat) : Mono (us b w v) := fun S T h j hu => by
  unfold us at hu ⊢
  rw [List.any_eq_true] at hu ⊢
  obtain ⟨y, hy, hn⟩ := hu
  refine ⟨y, hy, ?_⟩
  rw [List.all_eq_true] at hn ⊢
  exact fun n hm => inS_sub h (hn n hm)
theorem inS_iff {v : Nat} {T : Nat → Bool} {t : Th} : inS b w v T t = true ↔ (Mk b w t ∧ t.1 < v) ∨ (t.1 = v ∧ T t.2 = true) := by
  classical
  unfold inS
  rw [Bool.or_eq_true, decide_eq_true_eq, Bool.and_eq_true, beq_iff_eq]
def Snd (b : Bk) (w : Wb) (v : Nat) (T : Nat → Bool) : Prop := ∀ i, T i = true → i < b.kn ∧ Mk b w (v, i)
theorem scan_sound {v : Nat} (hv : v < w.length) {T : Nat → Bool} (h : Snd b w v T) : ∀ j, j ≤ b.kn → Snd b w v (scan (us b w v) T j) := by
  intro j
  induction j with
  | zero => intro _; exact h
  | succ j ih =>
    intro hj i hi
    have ihj := ih (by omega)
    rw [scan_succ] at hi
    split at hi
    · rename_i hu
      by_cases e : i = j
      · subst e
        refine ⟨by omega, ?_⟩
        unfold us at hu
        rw [List.any_eq_true] at hu
        obtain ⟨y, hy, hn⟩ := hu
        rw [List.all_eq_true] at hn
        exact ⟨_, mk_of hv (by show i < b.kn; omega) hy fun n hm => by
          rcases inS_iff.mp (hn n hm) with ⟨q, _⟩ | ⟨q1, q2⟩
          · exact q
          · have := (ihj n.2 q2).2
            rw [← q1] at this
            exact this⟩
      · rw [ins_ne e] at hi
        exact ihj i hi
    · exact ihj i hi
theorem rounds_sound {v : Nat} (hv : v < w.length) (r : Nat) : Snd b w v (rounds (us b w v) b.kn r) := by
  induction r with
  | zero => exact fun i hi => nomatch hi
  | succ r ih => exact scan_sound hv ih b.kn (Nat.le_refl _)
theorem needs_in {ok : b.ok} (wok : Wok b w) {t n : Th} (ht : t.1 < w.length) {y : Wy} (hy : y ∈ ways b w t) (hn : n ∈ needs b w t y) : (n.1 < t.1 ∧ n.2 < b.kn) ∨ (n.1 = t.1 ∧ n.2 < b.kn ∧ n.2 ≠ t.2) := by
  cases y with
  | mv m =>
    rw [List.mem_singleton.mp hn]
    exact .inr ⟨rfl, needs_mv (ok := ok) hy⟩
  | ru m => exact .inl (needs_ru (ok := ok) wok ht hy hn)
theorem rounds_all (ok : b.ok) (wok : Wok b w) {v : Nat} (hv : v < w.length) {i : Nat} (h : Mk b w (v, i)) : rounds (us b w v) b.kn b.kn i = true := by
  have cl := rounds_closed (us_mono b w v) b.kn
  have key : ∀ t c, Dv b w t c → t.1 = v → rounds (us b w v) b.kn b.kn t.2 = true := by
    intro t c d
    induction d with
    | mk t y cs h1 h2 hy hl hc ih =>
      intro e
      obtain ⟨t1, t2⟩ := t
      cases e
      refine cl t2 h2 ?_
      unfold us
      rw [List.any_eq_true]
      refine ⟨y, hy, ?_⟩
      rw [List.all_eq_true]
      intro n hn
      obtain ⟨j, hj⟩ := List.getElem?_of_mem hn
      have hjl : j < cs.length := by rw [hl]; exact (List.getElem?_eq_some_iff.mp hj).1
      refine inS_iff.mpr ?_
      rcases needs_in (ok := ok) wok h1 hy hn with ⟨q, _⟩ | ⟨q, _⟩
      · exact .inl ⟨⟨_, hc j n _ hj (List.getElem?_eq_getElem hjl)⟩, q⟩
      · exact .inr ⟨q, ih j n _ hj (List.getElem?_eq_getElem hjl) q⟩
  obtain ⟨c, d⟩ := h
  exact key _ c d rfl
theorem rounds_iff (ok : b.ok) (wok : Wok b w) {v : Nat} (hv : v < w.length) (i : Nat) : rounds (us b w v) b.kn b.kn i = true ↔ Mk b w (v, i) := ⟨fun h => (rounds_sound hv b.kn i h).2, rounds_all ok wok hv⟩
/-- all of the value is found: on to the next -/
theorem inS_next (ok : b.ok) (wok : Wok b w) {v : Nat} (hv : v < w.length) (t : Th) : inS b w v (rounds (us b w v) b.kn b.kn) t = true ↔ inS b w (v + 1) (fun _ => false) t = true := by
  rw [inS_iff, inS_iff]
  constructor
  · rintro (⟨a, c⟩ | ⟨a, c⟩)
    · exact .inl ⟨a, by omega⟩
    · rw [rounds_iff ok wok hv] at c
      obtain ⟨t1, t2⟩ := t
      cases a
      exact .inl ⟨c, Nat.lt_succ_self _⟩
  · rintro (⟨a, c⟩ | ⟨_, c⟩)
    · rcases Nat.lt_or_ge t.1 v with z | z
      · exact .inl ⟨a, z⟩
      · have e : t.1 = v := by omega
        refine .inr ⟨e, (rounds_iff ok wok hv t.2).mpr ?_⟩
        rw [← e]; exact a
    · cases c
/-- in the last round the ways are told whole -/
theorem last_ways (ok : b.ok) (wok : Wok b w) {v k : Nat} (hv : v < w.length) (hk : k < b.kn) : ((ways b w (v, k)).filter fun y => (needs b w (v, k) y).all fun n => inS b w v (scan (us b w v) (rounds (us b w v) b.kn (b.kn - 1)) k) n) = usable b w (v, k) := by
  classical
  unfold usable
  apply List.filter_congr
  intro y hy
  rw [Bool.eq_iff_iff, List.all_eq_true, decide_eq_true_eq]
  constructor
  · intro h n hn
    rcases inS_iff.mp (h n hn) with ⟨q, _⟩ | ⟨q1, q2⟩
    · exact q
    · have := (scan_sound hv (rounds_sound hv (b.kn - 1)) k (Nat.le_of_lt hk) n.2 q2).2
      rw [← q1] at this
      exact this
  · intro h n hn
    refine inS_iff.mpr ?_
    rcases needs_in (ok := ok) wok hv hy hn with ⟨q, _⟩ | ⟨q, _, q3⟩
    · exact .inl ⟨h n hn, q⟩
    · refine .inr ⟨q, ?_⟩
      rw [last_round (us_mono b w v) hk q3, rounds_iff ok wok hv]
      have := h n hn
      obtain ⟨n1, n2⟩ := n
      cases q
      exact this
theorem filter_ne {v k : Nat} {T : Nat → Bool} : ((ways b w (v, k)).filter fun y => (needs b w (v, k) y).all fun n => inS b w v T n) ≠ [] ↔ us b w v T k = true := by
  unfold us
  rw [List.any_eq_true]
  constructor
  · intro h
    obtain ⟨y, hy⟩ := List.exists_mem_of_ne_nil _ h
    obtain ⟨h1, h2⟩ := List.mem_filter.mp hy
    exact ⟨y, h1, h2⟩
  · rintro ⟨y, h1, h2⟩ e
    have : y ∈ ((ways b w (v, k)).filter fun y => (needs b w (v, k) y).all fun n => inS b w v T n) := List.mem_filter.mpr ⟨h1, h2⟩
    rw [e] at this
    cases this
theorem inS_ins {v k : Nat} {T : Nat → Bool} {t : Th} : inS b w v (ins T k) t = true ↔ t = (v, k) ∨ inS b w v T t = true := by
  rw [inS_iff, inS_iff]
  obtain ⟨t1, t2⟩ := t
  constructor
  · rintro (h | ⟨h1, h2⟩)
    · exact .inr (.inl h)
    · by_cases e : t2 = k
      · have h1 : t1 = v := h1
        exact .inl (by rw [h1, e])
      · rw [ins_ne e] at h2
        exact .inr (.inr ⟨h1, h2⟩)
  · rintro (h | h)
    · injection h with h1 h2
      exact .inr ⟨h1, by rw [show (t1, t2).2 = k from h2]; exact ins_self _ _⟩
    · exact h.imp id fun z => ⟨z.1, sub_ins _ _ _ z.2⟩
theorem inS_lt {v : Nat} {T : Nat → Bool} (hv : v < w.length) (hT : Snd b w v T) {t : Th} (h : inS b w v T t = true) : t.1 < w.length ∧ t.2 < b.kn ∧ Mk b w t := by
  rcases inS_iff.mp h with ⟨a, c⟩ | ⟨a, c⟩
  · exact ⟨a.val.1, a.val.2, a⟩
  · have := hT t.2 c
    rw [← a] at this
    exact ⟨by omega, this.1, this.2⟩
end
end Lk.M
end

section
set_option Elab.async false
set_option linter.all false
set_option maxRecDepth 100000
set_option maxHeartbeats 1000000
/-! What can be made, by which ways. -/
namespace Lk
open PySem PySem.Spec L2
open PyProof.Rows hiding St
open Evl (Ex)
open M (Bk Rl Mv Vl Wb Wy)
theorem encT_inj' (x y : Thg) (h : encT x = encT y) : x = y := encT_inj h
/-- a dict of things to ways -/
def wd (ts : List Thg) (fm : Thg → List Wy) : List (D × VP) := ts.map fun t => (encT t, vL (wysV (fm t)))
theorem wd_len (ts : List Thg) (fm : Thg → List Wy) : (wd ts fm).length = ts.length := List.length_map ..
theorem wd_keys (ts : List Thg) (fm : Thg → List Wy) : (wd ts fm).map (·.1) = ts.map encT := by unfold wd; rw [List.map_map]; rfl
theorem wd_some {ts : List Thg} {fm : Thg → List Wy} {t : Thg} (h : t ∈ ts) : lk (wd ts fm) (encT t) = some (vL (wysV (fm t))) := lk_at encT_inj' h
theorem wd_in {ts : List Thg} {fm : Thg → List Wy} {t : Thg} : (lk (wd ts fm) (encT t)).isSome = decide (t ∈ ts) := by
  by_cases h : t ∈ ts
  · rw [wd_some h, decide_eq_true h]; rfl
  · rw [show lk (wd ts fm) (encT t) = none from lk_out encT_inj' h, decide_eq_false h]; rfl
theorem put_at {β : Type _} {ts : List Thg} {g : Thg → β} {t : Thg} {v : β} (h : t ∈ ts) : putP (ts.map fun x => (encT x, g x)) (encT t) v = ts.map fun x => (encT x, if x = t then v else g x) := by
  unfold putP
  rw [any_lk, lk_at encT_inj' h, if_pos (by rfl), List.map_map]
  apply List.map_congr_left
  intro x _
  show (if encT x = encT t then (encT x, v) else (encT x, g x)) = _
  by_cases e : x = t
  · rw [if_pos (by rw [e]), if_pos e]
  · rw [if_neg (fun z => e (encT_inj z)), if_neg e]
theorem put_new {β : Type _} {ts : List Thg} {g : Thg → β} {t : Thg} {v : β} (h : t ∉ ts) : putP (ts.map fun x => (encT x, g x)) (encT t) v = (ts ++ [t]).map fun x => (encT x, if x = t then v else g x) := by
  rw [putP_new (lk_out encT_inj' h), List.map_append]
  congr 1
  · apply List.map_congr_left
    intro x hx
    rw [if_neg fun e => h (by rw [← e]; exact hx)]
  · simp
/-- the key list after a put -/
def addK (ts : List Thg) (t : Thg) : List Thg := if t ∈ ts then ts else ts ++ [t]
theorem put_any {β : Type _} {ts : List Thg} {g : Thg → β} {t : Thg} {v : β} : putP (ts.map fun x => (encT x, g x)) (encT t) v = (addK ts t).map fun x => (encT x, if x = t then v else g x) := by
  unfold addK
  split
  · rename_i h; exact put_at h
  · rename_i h; exact put_new h
theorem mem_addK {ts : List Thg} {t x : Thg} : x ∈ addK ts t ↔ x = t ∨ x ∈ ts := by
  unfold addK
  split
  · rename_i h
    exact ⟨.inr, fun z => z.elim (fun e => by rw [e]; exact h) id⟩
  · rw [List.mem_append, List.mem_singleton]; exact Or.comm
theorem addK_nodup {ts : List Thg} {t : Thg} (h : ts.Nodup) : (addK ts t).Nodup := by
  unfold addK
  split
  · exact h
  · rename_i n
    rw [List.nodup_append]
    exact ⟨h, by simp, fun a ha b hb e => n (by rw [← List.mem_singleton.mp hb, ← e]; exact ha)⟩
theorem wd_put {ts : List Thg} {fm : Thg → List Wy} {t : Thg} {l : List Wy} : putP (wd ts fm) (encT t) (vL (wysV l)) = wd (addK ts t) (fun x => if x = t then l else fm x) := by
  unfold wd
  rw [put_any]
  apply List.map_congr_left
  intro x _
  by_cases e : x = t
  · simp [e]
  · simp [e]
/-! sorted things -/
theorem srt_eq {ts us : List Thg} (hp : ∀ t, t ∈ ts ↔ t ∈ us) (nd : ts.Nodup) (hs : us.Pairwise M.tLt) : srt ts = us := by
  have tot : ∀ a b : Thg, (thLe a b || thLe b a) = true := fun a b => by
    unfold thLe
    rw [Bool.or_eq_true, decide_eq_true_eq, decide_eq_true_eq]
    omega
  have tr : ∀ a b c : Thg, thLe a b = true → thLe b c = true → thLe a c = true := fun a b c => by
    unfold thLe
    rw [decide_eq_true_eq, decide_eq_true_eq, decide_eq_true_eq]
    omega
  have s1 : (srt ts).Pairwise fun a b => thLe a b = true := List.pairwise_mergeSort tr tot ts
  have pm : (srt ts).Perm ts := List.mergeSort_perm ts thLe
  have nd1 : (srt ts).Nodup := pm.nodup_iff.mpr nd
  have anti : ∀ a b : Thg, thLe a b = true → thLe b a = true → a = b := fun a b => by
    unfold thLe
    rw [decide_eq_true_eq, decide_eq_true_eq]
    obtain ⟨a1, a2⟩ := a
    obtain ⟨b1, b2⟩ := b
    intro h1 h2
    simp only at h1 h2
    exact Prod.ext (by simp only; omega) (by simp only; omega)
  have s2 : us.Pairwise fun a b => thLe a b = true := hs.imp fun {a b} h => by
    unfold M.tLt at h
    unfold thLe
    rw [decide_eq_true_eq]
    omega
  have nd2 : us.Nodup := hs.imp fun {a b} h e => by
    subst e
    unfold M.tLt at h
    omega
  have key : ∀ (l m : List Thg), l.Pairwise (fun a b => thLe a b = true) → m.Pairwise (fun a b => thLe a b = true) → l.Nodup → m.Nodup → (∀ t, t ∈ l ↔ t ∈ m) → l = m := by
    intro l
    induction l with
    | nil =>
      intro m _ _ _ _ h
      cases m with
      | nil => rfl
      | cons b m => exact absurd ((h b).mpr (List.mem_cons_self ..)) (fun z => nomatch z)
    | cons a l ih =>
      intro m p1 p2 n1 n2 h
      cases m with
      | nil => exact absurd ((h a).mp (List.mem_cons_self ..)) (fun z => nomatch z)
      | cons b m =>
        have hab : a = b := by
          rcases List.mem_cons.mp ((h a).mp (List.mem_cons_self ..)) with e | e
          · exact e
          · rcases List.mem_cons.mp ((h b).mpr (List.mem_cons_self ..)) with e2 | e2
            · exact e2.symm
            · exact anti a b ((List.pairwise_cons.mp p1).1 b e2) ((List.pairwise_cons.mp p2).1 a e)
        subst hab
        congr 1
        refine ih m (List.pairwise_cons.mp p1).2 (List.pairwise_cons.mp p2).2 (List.nodup_cons.mp n1).2 (List.nodup_cons.mp n2).2 fun t => ?_
        have ht := h t
        rw [List.mem_cons, List.mem_cons] at ht
        constructor
        · intro z
          rcases ht.mp (.inr z) with e | e
          · rw [e] at z; exact absurd z (List.nodup_cons.mp n1).1
          · exact e
        · intro z
          rcases ht.mpr (.inr z) with e | e
          · rw [e] at z; exact absurd z (List.nodup_cons.mp n2).1
          · exact e
  exact key _ _ s1 s2 nd1 nd2 fun t => (pm.mem_iff).trans (hp t)
theorem ways_len {b : Bk} (ok : b.ok) (op kind : Nat) : (M.waysOf b op kind).length ≤ 60 := by
  unfold M.waysOf
  rw [List.length_append, List.length_map, List.length_map]
  have l1 := List.length_filter_le (fun n => decide ((b.mo n).to = kind)) (List.range b.mv.length)
  have l2 := List.length_filter_le (fun n => decide ((b.rl n).op = op) && decide ((b.rl n).dst = kind)) (List.range b.ru.length)
  rw [List.length_range] at l1 l2
  have := ok.mv20
  have := ok.ru40
  omega
noncomputable def useD (b : Bk) (W : Wb) : List (D × VP) := wd (M.U b W) (M.usable b W)
section
variable {P : Program} {w : World} {K : PySem.W.Frag} {mg : Str → Option Value} {base : Heap} {f : Addr} {fd : FuncData} {CB CW CR : Addr}
/-- the state within value v, after T of its kinds -/
structure UInv (b : Bk) (W : Wb) (v : Nat) (T : Nat → Bool) (ts : List Thg) (fm : Thg → List Wy) : Prop where
  nd : ts.Nodup
  mem : ∀ t, t ∈ ts ↔ M.inS b W v T t = true
  low : ∀ t ∈ ts, t.1 < v → fm t = M.usable b W t
theorem uinv_len {b : Bk} {W : Wb} {v : Nat} {T : Nat → Bool} {ts : List Thg} {fm : Thg → List Wy} (hv : v < W.length) (hT : M.Snd b W v T) (h : UInv b W v T ts fm) : ts.length ≤ W.length * b.kn := by
  rw [← M.allT_len b W.length]
  refine M.nodup_len h.nd fun t ht => M.mem_allT.mpr ?_
  have := M.inS_lt hv hT ((h.mem t).mp ht)
  exact ⟨this.1, this.2.1⟩
theorem uinv_step {b : Bk} {W : Wb} {v k : Nat} {T : Nat → Bool} {ts : List Thg} {fm : Thg → List Wy} (h : UInv b W v T ts fm) {l : List Wy} : UInv b W v (M.ins T k) (addK ts (v, k)) (fun x => if x = (v, k) then l else fm x) := by
  refine ⟨addK_nodup h.nd, fun t => by rw [mem_addK, M.inS_ins, h.mem], fun t ht hl => ?_⟩
  have ne : t ≠ (v, k) := fun e => by rw [e] at hl; exact Nat.lt_irrefl _ hl
  show (if t = (v, k) then _ else _) = _
  rw [if_neg ne]
  exact h.low t ((mem_addK.mp ht).resolve_left ne) hl
theorem some_eq {b : Bk} {W : Wb} {v k : Nat} {T : Nat → Bool} {ts : List Thg} {fm : Thg → List Wy} (h : UInv b W v T ts fm) : ((M.ways b W (v, k)).filter fun y => (M.needs b W (v, k) y).all fun n => (lk (wd ts fm) (encT n)).isSome) = (M.ways b W (v, k)).filter fun y => (M.needs b W (v, k) y).all fun n => M.inS b W v T n := by
  apply List.filter_congr
  intro y _
  congr 1
  funext n
  rw [wd_in]
  cases e : M.inS b W v T n with
  | true => exact decide_eq_true ((h.mem n).mpr e)
  | false => exact decide_eq_false fun z => by rw [(h.mem n).mp z] at e; cases e
abbrev spUsableWays (P : Program) (w : World) (CB CW CR : Addr) : Sp := mkSp (α := Bk × Wb) (fun a _ => a.1.ok ∧ M.Wok a.1 a.2) (fun a => [bookV CB a.1, webV CW CR a.2]) (fun a _ => vX P w (useD a.1 a.2))
theorem fc_usable_ways (g : Gk K mg CB CW CR) (cr : Fc P w K mg base 2 "raw_ways" (spRawWays CB CW CR)) (cu : Fc P w K mg base 2 "is_usable" (spIsUsable P w CB CW CR)) (F : FnP K "usable_ways" s_usable_ways f fd) (gm : mg "usable_ways" = some (.ref f)) : Fc P w K mg base 3 "usable_ways" (spUsableWays P w CB CW CR) := by
  refine fc_of F gm sc_usable_ways (F.bindsN fun _ _ _ _ _ _ us hl => match us, hl with | [_, _], _ => rfl) (fun _ => rfl) ?_
  rintro ⟨b, W⟩ Fr cdv A outer s E hr ⟨ok, wok⟩
  replace ok : b.ok := ok
  replace wok : M.Wok b W := wok
  have kn1 := ok.kn1
  have kn5 := ok.kn5
  have w200 := wok.len
  have small : W.length * b.kn < sizeLine := Nat.lt_of_le_of_lt (Nat.mul_le_mul w200 kn5) (by decide)
  refine js_new 2 sc_usable_ways.nd jn_dict fun p => ?_
  refine js_for (fun v Γ => v ≤ W.length ∧ ∃ ts fm, UInv b W v (fun _ => false) ts fm ∧ Γ = ⟨[some (bookV CB b), some (webV CW CR W), some (vE (.ref p)), none, none, none, none, none, none], [(p, oX P w (wd ts fm))], []⟩) rfl rfl
    (ji_range1 (n := W.length) (g.fr _ (by decide)) (je_imp (je_lenT (ds := W.map vlD) g.fr (je_rows g (je_name 1))) (fun v K h => by rw [List.length_map] at h; exact h))) ⟨Nat.zero_le _, [], fun _ => [], ⟨List.nodup_nil, fun t => ⟨fun h => (nomatch h), fun h => by rcases M.inS_iff.mp h with ⟨_, z⟩ | ⟨_, z⟩ <;> exact absurd z (by first | exact Nat.not_lt_zero _ | exact fun q => nomatch q)⟩, fun t h => (nomatch h)⟩, rfl⟩ ?_ ?_
  · -- a value
    rintro v P' Γ1 hP ⟨hvl, ts, fm, hU, rfl⟩ vv Pc
    rw [List.getElem?_map] at hP
    obtain ⟨j, e1, rfl⟩ := Option.map_eq_some_iff.mp hP
    obtain ⟨hv, e3⟩ := List.getElem?_eq_some_iff.mp e1
    rw [List.getElem_range] at e3
    subst e3
    rw [List.length_range] at hv
    refine ⟨_, _, jg_name 3 sc_usable_ways.nd, ?_⟩
    refine js_for (fun r Γ => r ≤ b.kn ∧ ∃ ts fm, UInv b W v (M.rounds (M.us b W v) b.kn r) ts fm ∧ (r = b.kn → ∀ t ∈ ts, fm t = M.usable b W t) ∧ Γ = ⟨[some (bookV CB b), some (webV CW CR W), some (vE (.ref p)), some (vN v), none, none, none, none, none], [(p, oX P w (wd ts fm))], [(vv, Pc)]⟩) rfl rfl
      (ji_range1 (n := b.kn) (g.fr _ (by decide)) (je_kn g (je_name 0))) ⟨Nat.zero_le _, ts, fm, hU, fun e => by omega, rfl⟩ ?_ ?_
    · -- a round
      rintro r P' Γ1 hP ⟨hrl, ts, fm, hU, _, rfl⟩ v2 Pc2
      rw [List.getElem?_map] at hP
      obtain ⟨j, e1, rfl⟩ := Option.map_eq_some_iff.mp hP
      obtain ⟨hrk, e3⟩ := List.getElem?_eq_some_iff.mp e1
      rw [List.getElem_range] at e3
      subst e3
      rw [List.length_range] at hrk
      have snd := M.rounds_sound (b := b) (w := W) hv r
      refine ⟨_, _, jg_name 4 sc_usable_ways.nd, js_wk [some (bookV CB b), some (webV CW CR W), some (vE (.ref p)), some (vN v), none, none, none, none, none] (by repeat' first | exact True.intro | refine ⟨fun _ _ h => h, ?_⟩) ?_⟩
      refine js_for (fun k Γ => k ≤ b.kn ∧ ∃ ts fm, UInv b W v (M.scan (M.us b W v) (M.rounds (M.us b W v) b.kn r) k) ts fm ∧ (r + 1 = b.kn → ∀ t ∈ ts, t.1 = v → t.2 < k → fm t = M.usable b W t) ∧ Γ = ⟨[some (bookV CB b), some (webV CW CR W), some (vE (.ref p)), some (vN v), none, none, none, none, none], [(p, oX P w (wd ts fm))], [(v2, Pc2), (vv, Pc)]⟩) rfl rfl
        (ji_range1 (n := b.kn) (g.fr _ (by decide)) (je_kn g (je_name 0))) ⟨Nat.zero_le _, ts, fm, hU, fun _ t _ _ h => absurd h (Nat.not_lt_zero _), rfl⟩ ?_ ?_
      · -- a kind
        rintro k P' Γ1 hP ⟨hkl, ts, fm, hU, hlast, rfl⟩ v3 Pc3
        rw [List.getElem?_map] at hP
        obtain ⟨j, e1, rfl⟩ := Option.map_eq_some_iff.mp hP
        obtain ⟨hk, e3⟩ := List.getElem?_eq_some_iff.mp e1
        rw [List.getElem_range] at e3
        subst e3
        rw [List.length_range] at hk
        have sndk := M.scan_sound (b := b) (w := W) hv snd k hkl
        have hlen := uinv_len hv sndk hU
        refine ⟨_, _, jg_name 5 sc_usable_ways.nd, ?_⟩
        refine js_set (P := vD (encT (v, k))) 6 sc_usable_ways.nd (je_tupD (ds := [dN v, dN k]) (ja_cons (je_name 3) (ja1 (je_name 5)))) ?_
        have nd_of : ∀ y ∈ M.ways b W (v, k), Nd b W (v, k) y := fun y hy => ⟨ok, wok, hv, hy⟩
        have wl : (M.ways b W (v, k)).length < sizeLine := by
          exact Nat.lt_of_le_of_lt (ways_len ok _ _) (by decide : 60 < sizeLine)
        refine js_setLc 7 [("way", 8)] (M.ways b W (v, k)) (fun y => vD (wyD y)) (fun y => (M.needs b W (v, k) y).all fun n => (lk (wd ts fm) (encT n)).isSome) (fun y => vD (wyD y)) rfl sc_usable_ways.nd (blkOk_by (by rfl))
          (ji_lst (je_call cr (hr.mono (by decide)) (b, W, (v, k)) ⟨ok, hv⟩ (ja_cons (je_name 0) (ja_cons (je_name 1) (ja1 (je_name 6)))) (fun _ _ _ h => h))) wl ?_ (fun q => ?_) (sw_true rfl rfl rfl rfl)
        · intro y hy A' O v' Pc'
          exact jelt1 8 sc_usable_ways.nd fun s H0 C cl fp => ⟨jts_one (jt_val (je_callO 0 cu (hr.mono (by decide)) (b, W, (v, k), y, wd ts fm) (nd_of y hy) (ja_cons (je_name 0) (ja_cons (je_name 1) (ja_cons (je_name 6) (ja_cons (je_name 8) (ja1 (je_name 2)))))) (.same (.same (.same (.same (.own .nil))))) (fun _ _ _ _ h => h))), fun _ => je_name 8⟩
        rw [some_eq hU]
        refine js_show 7 1 rfl rfl ?_
        refine js_ifLast (jt_gt (je_lenL g.fr (rdl _) (je_name 7)) je_int) (fun hb => ?_) fun hb => ?_
        · -- some ways
          have hne : ((M.ways b W (v, k)).filter fun y => (M.needs b W (v, k) y).all fun n => M.inS b W v (M.scan (M.us b W v) (M.rounds (M.us b W v) b.kn r) k) n) ≠ [] := fun e => by
            rw [e] at hb
            simp at hb
          have hus := M.filter_ne.mp hne
          refine js_put (k := encT (v, k)) 0 hr (je_name 7) (je_name 2) (je_name 6) (by rw [wd_len]; omega) ?_ rfl rfl (encT_d8 _)
          refine js_nil ⟨_, ⟨hk, addK ts (v, k), fun x => if x = (v, k) then ((M.ways b W (v, k)).filter fun y => (M.needs b W (v, k) y).all fun n => M.inS b W v (M.scan (M.us b W v) (M.rounds (M.us b W v) b.kn r) k) n) else fm x, ?_, ?_, rfl⟩, (by repeat' first | exact True.intro | refine ⟨fun _ _ h => h, ?_⟩), ?_, rfl⟩
          · rw [M.scan_succ, if_pos hus]
            exact uinv_step hU
          · intro hrn t ht h1 h2
            show (if t = (v, k) then _ else _) = _
            by_cases e : t = (v, k)
            · rw [if_pos e, e]
              have er : r = b.kn - 1 := by omega
              rw [er]
              exact M.last_ways ok wok hv hk
            · rw [if_neg e]
              refine hlast hrn t ((mem_addK.mp ht).resolve_left e) h1 ?_
              have : t.2 ≠ k := fun z => e (Prod.ext h1 z)
              omega
          · show [(p, oX P w (putP (wd ts fm) (encT (v, k)) (vL (wysV _))))] = _
            rw [wd_put]
        · have he : ((M.ways b W (v, k)).filter fun y => (M.needs b W (v, k) y).all fun n => M.inS b W v (M.scan (M.us b W v) (M.rounds (M.us b W v) b.kn r) k) n) = [] := by
            cases q2 : ((M.ways b W (v, k)).filter fun y => (M.needs b W (v, k) y).all fun n => M.inS b W v (M.scan (M.us b W v) (M.rounds (M.us b W v) b.kn r) k) n) with
            | nil => rfl
            | cons _ _ =>
              rw [q2] at hb
              simp at hb
          have hus : ¬ M.us b W v (M.scan (M.us b W v) (M.rounds (M.us b W v) b.kn r) k) k = true := fun z => M.filter_ne.mpr z he
          refine js_nil ⟨_, ⟨hk, ts, fm, ?_, ?_, rfl⟩, (by repeat' first | exact True.intro | refine ⟨fun _ _ h => h, ?_⟩), rfl, rfl⟩
          · rw [M.scan_succ, if_neg hus]
            exact hU
          · intro hrn t ht h1 h2
            by_cases e : t.2 = k
            · exfalso
              have et : t = (v, k) := Prod.ext h1 e
              rw [et] at ht
              rcases M.inS_iff.mp ((hU.mem _).mp ht) with ⟨_, z⟩ | ⟨_, z⟩
              · exact Nat.lt_irrefl _ z
              · exact hus (M.scan_us (M.us_mono b W v) z)
            · exact hlast hrn t ht h1 (by omega)
      · rintro Γ' ⟨_, ts, fm, hU, hlast, rfl⟩
        rw [List.length_map, List.length_range] at hU hlast
        refine js_nil ⟨_, ⟨hrk, ts, fm, hU, fun e t ht => ?_, rfl⟩, (by repeat' first | exact True.intro | refine ⟨fun _ _ h => h, ?_⟩), rfl, rfl⟩
        have hsn := M.rounds_sound (b := b) (w := W) hv (r + 1)
        rcases M.inS_iff.mp ((hU.mem t).mp ht) with ⟨_, z⟩ | ⟨z1, z2⟩
        · exact hU.low t ht z
        · exact hlast e t ht z1 (hsn t.2 z2).1
    · rintro Γ' ⟨_, ts, fm, hU, hfin, rfl⟩
      rw [List.length_map, List.length_range] at hU hfin
      refine js_nil ⟨_, ⟨hv, ts, fm, ⟨hU.nd, fun t => (hU.mem t).trans (M.inS_next ok wok hv t), fun t ht _ => hfin rfl t ht⟩, rfl⟩, (by repeat' first | exact True.intro | refine ⟨fun _ _ h => h, ?_⟩), rfl, rfl⟩
  · rintro Γ' ⟨_, ts, fm, hU, rfl⟩
    rw [List.length_map, List.length_range] at hU
    have mem : ∀ t, t ∈ ts ↔ t ∈ M.U b W := fun t => by
      rw [hU.mem, M.mem_U, M.inS_iff]
      constructor
      · rintro (⟨a, _⟩ | ⟨_, a⟩)
        · exact a
        · cases a
      · exact fun a => .inl ⟨a, a.val.1⟩
    have fmU : ∀ t ∈ M.U b W, fm t = M.usable b W t := fun t ht => hU.low t ((mem t).mpr ht) (M.mem_U.mp ht).val.1
    have es : srt ts = M.U b W := srt_eq mem hU.nd (M.U_sorted b W)
    have ul : (M.U b W).length ≤ W.length * b.kn := by
      rw [← M.allT_len b W.length]
      exact List.length_filter_le _ _
    refine js_ret (je_new (jn_dc [("thing", 6)] (M.U b W) (fun t => vD (encT t)) (fun _ => true) encT (fun t => vL (wysV (M.usable b W t))) hr rfl sc_usable_ways.nd (blkOk_by (by rfl))
      (ji_lst (je_imp (je_new (jn_sortX rfl hr g.fr (rdyO 0) (je_name 2) (wd_keys ts fm))) fun v K h => by rw [es] at h; exact h)) (Nat.lt_of_le_of_lt ul small) ?_ (fun t _ => ⟨rfl, encT_d8 t⟩) ?_)) fun v K h => ?_
    · rw [List.filter_eq_self.mpr (fun _ _ => rfl)]
      refine List.Pairwise.map _ (fun a c h e => h (encT_inj e)) (M.U_nodup b W)
    · intro t ht A' O v Pc
      refine jent1 6 sc_usable_ways.nd fun s H0 C cl fp => ⟨jts_nil, fun _ => ⟨je_name 6, ?_⟩⟩
      refine je_ixX hr (rdxO 0) (je_name 2) (je_name 6) ?_ rfl (encT_d8 t)
      rw [← fmU t ht]
      exact wd_some ((mem t).mpr ht)
    · rw [List.filter_eq_self.mpr (fun _ _ => rfl)] at h
      exact h
end
end Lk
end

section
set_option Elab.async false
set_option linter.all false
set_option maxHeartbeats 1000000
/-! Prices that fall, ways in order. -/
namespace Lk.M
def addK (ts : List Th) (t : Th) : List Th := if t ∈ ts then ts else ts ++ [t]
theorem mem_addK {ts : List Th} {t x : Th} : x ∈ addK ts t ↔ x = t ∨ x ∈ ts := by
  unfold addK
  split
  · rename_i h
    exact ⟨.inr, fun z => z.elim (fun e => by rw [e]; exact h) id⟩
  · rw [List.mem_append, List.mem_singleton]; exact Or.comm
theorem addK_nodup {ts : List Th} {t : Th} (h : ts.Nodup) : (addK ts t).Nodup := by
  unfold addK
  split
  · exact h
  · rename_i n
    rw [List.nodup_append]
    exact ⟨h, by simp, fun a ha b hb e => n (by rw [← List.mem_singleton.mp hb, ← e]; exact ha)⟩
def setQ (q : Th → Nat) (t : Th) (c : Nat) : Th → Nat := fun x => if x = t then c else q x
theorem setQ_self (q : Th → Nat) (t : Th) (c : Nat) : setQ q t c t = c := if_pos rfl
theorem setQ_ne {q : Th → Nat} {t x : Th} {c : Nat} (h : x ≠ t) : setQ q t c x = q x := if_neg h
/-- what a way costs by the prices known -/
def totO (b : Bk) (w : Wb) (ts : List Th) (q : Th → Nat) (t : Th) (y : Wy) : Option Nat := if ∀ n ∈ needs b w t y, n ∈ ts then some (tot b w q t y) else none
def lkO (ts : List Th) (q : Th → Nat) (t : Th) : Option Nat := if t ∈ ts then some (q t) else none
def btr : Option Nat → Option Nat → Bool
  | none, _ => false
  | some _, none => true
  | some a, some b => decide (a < b)
structure PI (b : Bk) (w : Wb) (ts : List Th) (q : Th → Nat) : Prop where
  nd : ts.Nodup
  snd : ∀ t ∈ ts, Mk b w t ∧ opt b w t ≤ q t
def Exa (b : Bk) (w : Wb) (ts : List Th) (q : Th → Nat) (t : Th) : Prop := t ∈ ts ∧ q t = opt b w t
section
variable {b : Bk} {w : Wb} {ts : List Th} {q : Th → Nat} {t : Th} {y : Wy} {c : Nat}
theorem tot_ge (h : PI b w ts q) (hy : y ∈ usable b w t) (ht : Mk b w t) (hn : ∀ n ∈ needs b w t y, n ∈ ts) : opt b w t ≤ tot b w q t y :=
  Nat.le_trans ((opt_sol b w).le t ht y hy) (Nat.add_le_add_left (sum_le fun n hm => (h.snd n (hn n hm)).2) _)
theorem btr_some {o : Option Nat} (h : btr (some c) o = true) : ∀ d, o = some d → c < d := by
  rintro d rfl
  exact of_decide_eq_true h
theorem step_inv (h : PI b w ts q) (ht : Mk b w t) (hy : y ∈ usable b w t) (hc : totO b w ts q t y = some c) : PI b w (addK ts t) (setQ q t c) := by
  unfold totO at hc
  split at hc
  · rename_i hn
    cases hc
    refine ⟨addK_nodup h.nd, fun x hx => ?_⟩
    by_cases e : x = t
    · rw [e, setQ_self]; exact ⟨ht, tot_ge h hy ht hn⟩
    · rw [setQ_ne e]; exact h.snd x ((mem_addK.mp hx).resolve_left e)
  · cases hc
theorem step_ex (h : PI b w ts q) (ht : Mk b w t) (hy : y ∈ usable b w t) (hc : totO b w ts q t y = some c) (hb : btr (some c) (lkO ts q t) = true) {x : Th} (hx : Exa b w ts q x) : Exa b w (addK ts t) (setQ q t c) x := by
  refine ⟨mem_addK.mpr (.inr hx.1), ?_⟩
  by_cases e : x = t
  · subst e
    exfalso
    have h1 := btr_some hb (q x) (by unfold lkO; rw [if_pos hx.1])
    have h2 := (step_inv h ht hy hc).snd x (mem_addK.mpr (.inl rfl))
    rw [setQ_self] at h2
    have := hx.2
    omega
  · rw [setQ_ne e]; exact hx.2
theorem exa_tot (hn : ∀ n ∈ needs b w t y, Exa b w ts q n) : totO b w ts q t y = some (tot b w (opt b w) t y) := by
  unfold totO
  rw [if_pos fun n hm => (hn n hm).1]
  congr 1
  unfold tot
  congr 2
  exact List.map_congr_left fun n hm => (hn n hm).2
theorem step_opt (h : PI b w ts q) (ht : Mk b w t) (hy : y ∈ usable b w t) (ho : tot b w (opt b w) t y = opt b w t) (hn : ∀ n ∈ needs b w t y, Exa b w ts q n) :
    (btr (totO b w ts q t y) (lkO ts q t) = true → ∀ c, totO b w ts q t y = some c → Exa b w (addK ts t) (setQ q t c) t) ∧ (btr (totO b w ts q t y) (lkO ts q t) = false → Exa b w ts q t) := by
  have e := exa_tot hn
  rw [ho] at e
  rw [e]
  refine ⟨fun _ c hc => ?_, fun hb => ?_⟩
  · cases hc
    exact ⟨mem_addK.mpr (.inl rfl), setQ_self ..⟩
  · unfold lkO at hb
    split at hb
    · rename_i hm
      have : ¬ opt b w t < q t := of_decide_eq_false hb
      have := (h.snd t hm).2
      exact ⟨hm, by omega⟩
    · cases hb
end
/-! rank within a value -/
open Classical in
noncomputable def rk (b : Bk) (w : Wb) (l : List Th) (t : Th) : Nat := (l.filter fun s => decide (opt b w s < opt b w t)).length
theorem rk_lt {b : Bk} {w : Wb} {l : List Th} {s t : Th} (hs : s ∈ l) (h : opt b w s < opt b w t) : rk b w l s < rk b w l t := by
  classical
  unfold rk
  have sub : ∀ m : List Th, (m.filter fun x => decide (opt b w x < opt b w s)).length ≤ (m.filter fun x => decide (opt b w x < opt b w t)).length := by
    intro m
    induction m with
    | nil => exact Nat.le_refl _
    | cons a m ih =>
      rw [List.filter_cons, List.filter_cons]
      by_cases e : opt b w a < opt b w s
      · rw [if_pos (decide_eq_true e), if_pos (decide_eq_true (Nat.lt_trans e h))]
        exact Nat.succ_le_succ ih
      · rw [if_neg (by rw [decide_eq_false e]; exact fun z => nomatch z)]
        split
        · exact Nat.le_succ_of_le ih
        · exact ih
  induction l with
  | nil => exact nomatch hs
  | cons a l ih =>
    rw [List.filter_cons, List.filter_cons]
    rcases List.mem_cons.mp hs with e | hs
    · subst e
      rw [if_neg (by rw [decide_eq_false (Nat.lt_irrefl _)]; exact fun z => nomatch z), if_pos (decide_eq_true h)]
      exact Nat.lt_succ_of_le (sub l)
    · have := ih hs
      by_cases e : opt b w a < opt b w s
      · rw [if_pos (decide_eq_true e), if_pos (decide_eq_true (Nat.lt_trans e h))]
        exact Nat.succ_lt_succ this
      · rw [if_neg (by rw [decide_eq_false e]; exact fun z => nomatch z)]
        split
        · exact Nat.lt_succ_of_lt this
        · exact this
theorem rk_len {b : Bk} {w : Wb} {l : List Th} {t : Th} (ht : t ∈ l) : rk b w l t < l.length := by
  classical
  unfold rk
  induction l with
  | nil => exact nomatch ht
  | cons a l ih =>
    rw [List.filter_cons]
    rcases List.mem_cons.mp ht with e | ht
    · subst e
      rw [if_neg (by rw [decide_eq_false (Nat.lt_irrefl _)]; exact fun z => nomatch z)]
      exact Nat.lt_succ_of_le (List.length_filter_le _ _)
    · have := ih ht
      split
      · exact Nat.succ_lt_succ this
      · exact Nat.lt_succ_of_lt this
open Classical in
/-- the things of a value that can be made -/
noncomputable def Uv (b : Bk) (w : Wb) (v : Nat) : List Th := ((List.range b.kn).filter fun k => decide (Mk b w (v, k))).map fun k => (v, k)
theorem mem_Uv {b : Bk} {w : Wb} {v : Nat} {t : Th} : t ∈ Uv b w v ↔ t.1 = v ∧ Mk b w t := by
  classical
  unfold Uv
  simp only [List.mem_map, List.mem_filter, List.mem_range, decide_eq_true_eq]
  constructor
  · rintro ⟨k, ⟨_, h⟩, rfl⟩; exact ⟨rfl, h⟩
  · rintro ⟨h1, h2⟩
    obtain ⟨t1, t2⟩ := t
    cases h1
    exact ⟨t2, ⟨h2.val.2, h2⟩, rfl⟩
/-! the order of ways -/
theorem wyLt_trans {x y z : Wy} (h1 : wyLt x y = true) (h2 : wyLt y z = true) : wyLt x z = true := by
  cases x <;> cases y <;> cases z <;> simp only [wyLt, decide_eq_true_eq, Bool.false_eq_true] at h1 h2 ⊢ <;> omega
theorem pwLt_trans {b : Bk} {x y z : Wy} (h1 : pwLt b x y = true) (h2 : pwLt b y z = true) : pwLt b x z = true := by
  unfold pwLt at *
  simp only [Bool.or_eq_true, Bool.and_eq_true, decide_eq_true_eq] at *
  rcases h1 with h1 | ⟨h1, g1⟩ <;> rcases h2 with h2 | ⟨h2, g2⟩
  · exact .inl (by omega)
  · exact .inl (by omega)
  · exact .inl (by omega)
  · exact .inr ⟨by omega, wyLt_trans g1 g2⟩
/-- the first of the least -/
def leastOf {α : Type} (lt : α → α → Bool) (a : α) (l : List α) : α := l.foldl (fun m y => if lt y m = true then y else m) a
theorem least_ok {α : Type} {lt : α → α → Bool} (irr : ∀ x, lt x x = false) (tr : ∀ x y z, lt x y = true → lt y z = true → lt x z = true) (tri : ∀ x y, lt x y = true ∨ x = y ∨ lt y x = true) : ∀ (l : List α) (a : α), leastOf lt a l ∈ a :: l ∧ ∀ z ∈ a :: l, lt z (leastOf lt a l) = false
  | [], a => ⟨List.mem_singleton_self a, fun z hz => by rw [List.mem_singleton.mp hz]; exact irr a⟩
  | y :: l, a => by
    have ih := least_ok irr tr tri l (if lt y a = true then y else a)
    have e : leastOf lt a (y :: l) = leastOf lt (if lt y a = true then y else a) l := rfl
    rw [e]
    obtain ⟨h1, h2⟩ := ih
    refine ⟨?_, fun z hz => ?_⟩
    · rcases List.mem_cons.mp h1 with q | q
      · rw [q]
        split
        · exact List.mem_cons_of_mem _ (List.mem_cons_self ..)
        · exact List.mem_cons_self ..
      · exact List.mem_cons_of_mem _ (List.mem_cons_of_mem _ q)
    · have hm := h2 _ (List.mem_cons_self ..)
      generalize leastOf lt (if lt y a = true then y else a) l = m at *
      have low : ∀ u, lt u m = true → (if lt y a = true then y else a) = u ∨ lt (if lt y a = true then y else a) u = true → False := fun u hu h => by
        rcases h with e | e
        · rw [e] at hm; rw [hu] at hm; cases hm
        · rw [tr _ _ _ e hu] at hm; cases hm
      rcases List.mem_cons.mp hz with q | q
      · subst q
        cases e : lt z m with
        | false => rfl
        | true =>
          exfalso
          by_cases c : lt y z = true
          · rw [if_pos c] at hm low; exact low z e (.inr c)
          · rw [if_neg c] at hm low; exact low z e (.inl rfl)
      · rcases List.mem_cons.mp q with q | q
        · subst q
          cases e : lt z m with
          | false => rfl
          | true =>
            exfalso
            by_cases c : lt z a = true
            · rw [if_pos c] at hm low; exact low z e (.inl rfl)
            · rw [if_neg c] at hm low
              refine low z e ?_
              rcases tri z a with h | h | h
              · exact absurd h c
              · exact .inl h.symm
              · exact .inr h
        · exact h2 z (List.mem_cons_of_mem _ q)
theorem least_own {b : Bk} {w : Wb} {t : Th} {a : Wy} {l : List Wy} (h : ∀ y, y ∈ a :: l ↔ y ∈ usable b w t ∧ tot b w (opt b w) t y = opt b w t) : Own b w t (leastOf (pwLt b) a l) := by
  obtain ⟨h1, h2⟩ := least_ok (lt := pwLt b) (fun x => by
    cases e : pwLt b x x with
    | false => rfl
    | true => rw [pwLt_asym e] at e; cases e) (fun _ _ _ => pwLt_trans) (pwLt_tri b) l a
  exact ⟨((h _).mp h1).1, ((h _).mp h1).2, fun z hz e => h2 z ((h z).mpr ⟨hz, e⟩)⟩
end Lk.M
end

section
set_option Elab.async false
set_option linter.all false
set_option maxRecDepth 100000
set_option maxHeartbeats 1000000
/-! Totals, the least of the ways, the prices alone. -/
namespace Lk
open PySem PySem.Spec L2
open PyProof.Rows hiding St
open Evl (Ex)
open M (Bk Rl Mv Vl Wb Wy)
/-! ### ways by < -/
def pwD (b : Bk) (y : Wy) : D := .tup [dN (M.price b y), wyD y]
theorem alike_wy (x y : Wy) : PySem.W.alike (wyD x).data (wyD y).data = true := by cases x <;> cases y <;> rfl
theorem lt_str_mr : PySem.W.dataLt (.str sMove) (.str sRule) = true := by rw [PySem.W.dataLt_str]; decide +kernel
theorem lt_str_rm : PySem.W.dataLt (.str sRule) (.str sMove) = false := by rw [PySem.W.dataLt_str]; decide +kernel
theorem eqv_str (x : Str) : PyData.eqv (.str x) (.str x) = true := by
  have := data_eq (.text x) (.text x)
  rw [decide_eq_true rfl] at this
  exact this
theorem eqv_str_ne {x y : Str} (h : x ≠ y) : PyData.eqv (.str x) (.str y) = false := by
  have := data_eq (.text x) (.text y)
  rw [decide_eq_false (fun e => h (by injection e))] at this
  exact this
theorem eqv_int (m n : Nat) : PyData.eqv (.int (m : Int)) (.int (n : Int)) = decide (m = n) := by
  have := data_eq (dN m) (dN n)
  rw [dN_dec] at this
  exact this
theorem lt_pair_eq {a : PyData} {x y : PyData} (h : PySem.W.alike a a = true) (e : PyData.eqv a a = true) : PySem.W.dataLt (.tuple [a, x]) (.tuple [a, y]) = PySem.W.dataLt (.tuple [x]) (.tuple [y]) := by
  rw [PySem.W.dataLt_tuple, PySem.W.dataLt_tuple]
  exact PySem.W.dataLt_all_yes h e
theorem lt_pair_ne {a c : PyData} {xs ys : List PyData} (h : PySem.W.alike a c = true) (e : PyData.eqv a c = false) : PySem.W.dataLt (.tuple (a :: xs)) (.tuple (c :: ys)) = PySem.W.dataLt a c := by
  rw [PySem.W.dataLt_tuple]
  exact PySem.W.dataLt_all_no h e
theorem lt_self (x : PyData) : PySem.W.dataLt x x = false := PySem.W.dataLt_self x
theorem lt_sing_int (m n : Nat) : PySem.W.dataLt (.tuple [.int (m : Int)]) (.tuple [.int (n : Int)]) = decide (m < n) := by
  by_cases h : m = n
  · subst h
    rw [lt_self, decide_eq_false (Nat.lt_irrefl _)]
  · rw [lt_pair_ne rfl (by rw [eqv_int]; exact decide_eq_false h), PySem.W.dataLt_int]
    exact decide_eq_decide.mpr (by omega)
theorem wy_lt (x y : Wy) : PySem.W.dataLt (wyD x).data (wyD y).data = M.wyLt x y := by
  cases x with
  | mv m =>
    cases y with
    | mv n => exact (lt_pair_eq rfl (eqv_str _)).trans (lt_sing_int m n)
    | ru n => exact (lt_pair_ne rfl (eqv_str_ne sMove_ne)).trans lt_str_mr
  | ru m =>
    cases y with
    | mv n => exact (lt_pair_ne rfl (eqv_str_ne sMove_ne.symm)).trans lt_str_rm
    | ru n => exact (lt_pair_eq rfl (eqv_str _)).trans (lt_sing_int m n)
theorem lt_sing_wy (x y : Wy) : PySem.W.dataLt (.tuple [(wyD x).data]) (.tuple [(wyD y).data]) = M.wyLt x y := by
  by_cases h : x = y
  · subst h
    rw [lt_self, M.wyLt_irr]
  · rw [lt_pair_ne (alike_wy x y) (by rw [data_eq]; exact decide_eq_false fun e => h (wyD_inj e)), wy_lt]
theorem pw_lt (b : Bk) (x y : Wy) : PySem.W.dataLt (pwD b x).data (pwD b y).data = M.pwLt b x y := by
  unfold M.pwLt
  by_cases h : M.price b x = M.price b y
  · rw [decide_eq_true h, decide_eq_false (by omega), Bool.false_or, Bool.true_and]
    have : (pwD b x).data = .tuple [.int ((M.price b y : Nat) : Int), (wyD x).data] := by rw [← h]; rfl
    rw [this]
    exact (lt_pair_eq rfl (by rw [eqv_int]; exact decide_eq_true rfl)).trans (lt_sing_wy x y)
  · rw [decide_eq_false h, Bool.false_and, Bool.or_false]
    refine (lt_pair_ne rfl ((data_eq (dN (M.price b x)) (dN (M.price b y))).trans ((dN_dec _ _).trans (decide_eq_false h)))).trans ?_
    show PySem.W.dataLt (.int ((M.price b x : Nat) : Int)) (.int ((M.price b y : Nat) : Int)) = _
    rw [PySem.W.dataLt_int]
    exact decide_eq_decide.mpr (by omega)
theorem pwD_inj {b : Bk} {x y : Wy} (h : pwD b x = pwD b y) : x = y := by
  unfold pwD at h
  injection h with h
  injection h with _ h
  injection h with h
  exact wyD_inj h
theorem minD_enc {α : Type} {enc : α → D} {lt : α → α → Bool} (h : ∀ x y, PySem.W.dataLt (enc x).data (enc y).data = lt x y) : ∀ (l : List α) (a : α), PySem.W.minD (enc a).data ((l.map enc).map NestedKey.data) = (enc (M.leastOf lt a l)).data
  | [], _ => rfl
  | y :: l, a => by
    have e : PySem.W.minD (enc a).data (((y :: l).map enc).map NestedKey.data) = PySem.W.minD (if PySem.W.dataLt (enc y).data (enc a).data = true then (enc y).data else (enc a).data) ((l.map enc).map NestedKey.data) := rfl
    rw [e, h]
    have e2 : M.leastOf lt a (y :: l) = M.leastOf lt (if lt y a = true then y else a) l := rfl
    rw [e2, ← minD_enc h l]
    congr 1
    split <;> rfl
theorem pw_alike (b : Bk) (l : List Wy) : PySem.W.AlikeAll ((l.map (pwD b)).map NestedKey.data) := by
  refine ⟨fun x hx y hy => ?_, fun x hx => ?_⟩
  · obtain ⟨d, hd, rfl⟩ := List.mem_map.mp hx
    obtain ⟨x, _, rfl⟩ := List.mem_map.mp hd
    obtain ⟨e, he, rfl⟩ := List.mem_map.mp hy
    obtain ⟨y, _, rfl⟩ := List.mem_map.mp he
    cases x <;> cases y <;> rfl
  · obtain ⟨d, hd, rfl⟩ := List.mem_map.mp hx
    obtain ⟨x, _, rfl⟩ := List.mem_map.mp hd
    exact fun z => nomatch z
theorem pwD_fn (b : Bk) (y : Wy) : Fn 2 (pwD b y) := Fn.tup (n := 1) (all_cons (.num _) (all_cons (wyD_fn y) all_nil))
theorem jt_inL {F : Fm} {X : Cx} {Γ : Ct} {pos : Pos} {a b : Expr} {Pb : VP} {n : Nat} {ds : List D} {k : D} {r : Bool} (hr : Room n X.A) (rd : RdL F Γ Pb (ds.map vD)) (ha : JE F X Γ a (vD k)) (hb : JE F X Γ b Pb) (h1 : fine k = true) (h2 : SeqAt.shaped (.list (NestedKey.datas ds)) = true) (hk : decide (k ∈ ds) = r) (hm : behindInMarks .In b = false := by rfl) : JT F X Γ (.Compare a [.In] [b] pos) (· = r) :=
  jt_imp (jt_cmp (k := decide (k ∈ ds)) (op_inL (by have := hr.un; omega)) ha hb (fun σ H x y Q E hx hy kk => by
    obtain ⟨p, vs, hy1, hp, hv⟩ := rd σ H y E hy
    exact ⟨k, ds, p, vs, Im.mono hx (hid_ex _ _), hy1, hp, (allP_D.mp hv).mono (hid_ex _ _), h1, h2, kt_here kk rfl⟩) hm) fun _ h => h.trans hk
/-! ### prices in a dict -/
def pd (ts : List Thg) (q : Thg → Nat) : List (D × VP) := ts.map fun t => (encT t, vN (q t))
theorem pd_len (ts : List Thg) (q : Thg → Nat) : (pd ts q).length = ts.length := List.length_map ..
theorem pd_some {ts : List Thg} {q : Thg → Nat} {t : Thg} (h : t ∈ ts) : lk (pd ts q) (encT t) = some (vN (q t)) := lk_at encT_inj' h
theorem pd_none {ts : List Thg} {q : Thg → Nat} {t : Thg} (h : t ∉ ts) : lk (pd ts q) (encT t) = none := lk_out encT_inj' h
theorem pd_put {ts : List Thg} {q : Thg → Nat} {t : Thg} {c : Nat} : putP (pd ts q) (encT t) (vN c) = pd (M.addK ts t) (M.setQ q t c) := by
  unfold pd
  rw [put_any]
  show (addK ts t).map _ = (addK ts t).map _
  apply List.map_congr_left
  intro x _
  unfold M.setQ
  by_cases e : x = t
  · simp [e]
  · simp [e]
def optD : Option Nat → D
  | none => .none
  | some n => dN n
theorem optD_fn (o : Option Nat) : Fn 0 (optD o) := by cases o <;> exact ⟨rfl, Nat.le_refl _⟩
theorem optD_isN (o : Option Nat) : isN (optD o) = o.isNone := by cases o <;> rfl
section
variable {P : Program} {w : World} {K : PySem.W.Frag} {mg : Str → Option Value} {base : Heap} {f : Addr} {fd : FuncData} {CB CW CR : Addr}
abbrev spRawMakeable (CB CW CR : Addr) : Sp := mkSp (α := Bk × Wb) (fun a _ => a.1.ok ∧ M.Wok a.1 a.2) (fun a => [bookV CB a.1, webV CW CR a.2]) (fun a _ => vD (.tup ((M.U a.1 a.2).map encT)))
theorem fc_raw_makeable (g : Gk K mg CB CW CR) (c : Fc P w K mg base 3 "usable_ways" (spUsableWays P w CB CW CR)) (F : FnP K "raw_makeable" s_raw_makeable f fd) (gm : mg "raw_makeable" = some (.ref f)) : Fc P w K mg base 4 "raw_makeable" (spRawMakeable CB CW CR) := by
  refine fc_of F gm sc_raw_makeable (F.bindsN fun _ _ _ _ _ _ us hl => match us, hl with | [_, _], _ => rfl) (fun _ => rfl) ?_
  rintro ⟨b, W⟩ Fr cdv A outer s E hr hp
  exact js_ret (je_tupX rfl g.fr (rdy (useD b W)) (je_call c hr (b, W) hp (ja_cons (je_name 0) (ja1 (je_name 1))) (fun _ _ _ h => h))) fun v K h => by
    rw [show (useD b W).map (·.1) = (M.U b W).map encT from wd_keys _ _] at h
    exact h
abbrev spTotal (P : Program) (w : World) (CB CW CR : Addr) : Sp := mkSp (α := Bk × Wb × Thg × Wy × List Thg × (Thg → Nat)) (fun a _ => Nd a.1 a.2.1 a.2.2.1 a.2.2.2.1) (fun a => [bookV CB a.1, webV CW CR a.2.1, vD (encT a.2.2.1), vD (wyD a.2.2.2.1), vX P w (pd a.2.2.2.2.1 a.2.2.2.2.2)])
  (fun a _ => vD (optD (M.totO a.1 a.2.1 a.2.2.2.2.1 a.2.2.2.2.2 a.2.2.1 a.2.2.2.1)))
theorem fc_total (g : Gk K mg CB CW CR) (cn : Fc P w K mg base 1 "needs_in_order" (spNeeds CB CW CR)) (cp : Fc P w K mg base 1 "price_of" (spPriceOf CB)) (F : FnP K "total" s_total f fd) (gm : mg "total" = some (.ref f)) : Fc P w K mg base 2 "total" (spTotal P w CB CW CR) := by
  refine fc_of F gm sc_total (F.bindsN fun _ _ _ _ _ _ us hl => match us, hl with | [_, _, _, _, _], _ => rfl) (fun _ => rfl) ?_
  rintro ⟨b, W, t, y, ts, q⟩ Fr cdv A outer s E hr hn
  replace hn : Nd b W t y := hn
  refine js_setLc 5 [("need", 6)] (M.needs b W t y) (fun n => vD (encT n)) (fun _ => true) (fun n => vD (optD (M.lkO ts q n))) rfl sc_total.nd (blkOk_by (by rfl)) (ji_lst (je_call cn (hr.mono (by decide)) (b, W, t, y) hn (ja_cons (je_name 0) (ja_cons (je_name 1) (ja_cons (je_name 2) (ja1 (je_name 3))))) (fun _ _ _ h => h))) (Nat.lt_of_le_of_lt (needs_len hn) (by decide)) ?_ (fun p => ?_) (sw_true rfl rfl rfl rfl)
  · intro n hm A' O v Pc
    refine jelt1 6 sc_total.nd fun s H0 C cl fp => ⟨jts_nil, fun _ => je_get2 hr (rdx (pd ts q)) (je_name 4) (je_name 6) je_none (fun P' e v K h => ?_) (fun e v K h => ?_) (encT_d8 n)⟩
    · by_cases hm : n ∈ ts
      · rw [pd_some hm] at e
        cases e
        unfold M.lkO
        rw [if_pos hm]
        exact h
      · rw [pd_none hm] at e; cases e
    · by_cases hm : n ∈ ts
      · rw [pd_some hm] at e; cases e
      · unfold M.lkO
        rw [if_neg hm]
        exact h
  rw [List.filter_eq_self.mpr (fun _ _ => rfl)]
  refine js_show 5 0 rfl rfl ?_
  have fnl : ∀ d ∈ (M.needs b W t y).map (fun n => optD (M.lkO ts q n)), Fn 0 d := fun d hd => by
    obtain ⟨n, _, rfl⟩ := List.mem_map.mp hd
    exact optD_fn _
  have hds : ∀ {v : V} {K : Hp}, (vL ((M.needs b W t y).map fun n => vD (optD (M.lkO ts q n)))).p v K → (vL (((M.needs b W t y).map fun n => optD (M.lkO ts q n)).map vD)).p v K := fun {v K} h => by rw [List.map_map]; exact h
  by_cases hall : ∀ n ∈ M.needs b W t y, n ∈ ts
  · have he : M.totO b W ts q t y = some (M.tot b W q t y) := if_pos hall
    rw [he]
    have nn : NestedKey.none ∉ (M.needs b W t y).map fun n => optD (M.lkO ts q n) := fun h => by
      obtain ⟨n, hn, e⟩ := List.mem_map.mp h
      unfold M.lkO at e
      rw [if_pos (hall n hn)] at e
      cases e
    have hl : ((M.needs b W t y).map fun n => vD (optD (M.lkO ts q n))) = ((M.needs b W t y).map q).map vN := by
      rw [List.map_map]
      apply List.map_congr_left
      intro n hn
      unfold M.lkO
      rw [if_pos (hall n hn)]
      rfl
    refine js_ret (P := vN (M.tot b W q t y)) (je_if (B := (· = false)) (jt_inL (ds := (M.needs b W t y).map fun n => optD (M.lkO ts q n)) (k := .none) hr (by rw [List.map_map]; exact rdl _) je_none (je_name 5) ((Fn.none (n := 0)).fine (by decide)) (shaped_list fnl (by decide)) (decide_eq_false nn)) (fun z => nomatch z) fun _ => ?_) (fun _ _ h => h)
    refine je_eq (je_add (je_call cp (hr.mono (by decide)) (b, y) ⟨_, _, hn.2.2.2⟩ (ja_cons (je_name 0) (ja1 (je_name 3))) (fun _ _ _ h => h)) (je_sum (ns := (M.needs b W t y).map q) rfl g.fr (je_imp (je_name 5) fun v K h => by rw [hl] at h; exact h))) ?_
    show vZ (((M.price b y : Nat) : Int) + ((((M.needs b W t y).map q).sum : Nat) : Int)) = vZ ((M.tot b W q t y : Nat) : Int)
    rw [← Int.natCast_add]
    rfl
  · have he : M.totO b W ts q t y = none := if_neg hall
    rw [he]
    have nn : NestedKey.none ∈ (M.needs b W t y).map fun n => optD (M.lkO ts q n) := by
      have : ∃ n, n ∈ M.needs b W t y ∧ n ∉ ts := Classical.byContradiction fun h => hall fun n hn => Classical.byContradiction fun h2 => h ⟨n, hn, h2⟩
      obtain ⟨n, h1, h2⟩ := this
      refine List.mem_map.mpr ⟨n, h1, ?_⟩
      unfold M.lkO
      rw [if_neg h2]
      rfl
    exact js_ret (P := vNone) (je_if (B := (· = true)) (jt_inL (ds := (M.needs b W t y).map fun n => optD (M.lkO ts q n)) (k := .none) hr (by rw [List.map_map]; exact rdl _) je_none (je_name 5) ((Fn.none (n := 0)).fine (by decide)) (shaped_list fnl (by decide)) (decide_eq_true nn)) (fun _ => je_none) fun z => nomatch z) (fun _ _ h => h)
abbrev spBetter : Sp := mkSp (α := Option Nat × Option Nat) (fun _ _ => True) (fun a => [vD (optD a.1), vD (optD a.2)]) (fun a _ => vB (M.btr a.1 a.2))
theorem fc_better (F : FnP K "better" s_better f fd) (gm : mg "better" = some (.ref f)) : Fc P w K mg base 1 "better" spBetter := by
  refine fc_of F gm sc_better (F.bindsN fun _ _ _ _ _ _ us hl => match us, hl with | [_, _], _ => rfl) (fun _ => rfl) ?_
  rintro ⟨o, o'⟩ Fr cdv A outer s E hr hp
  cases o with
  | none => exact js_ret (P := vB (false && false)) (je_and (je_notN (d := .none) (je_name 0)) fun z => nomatch z) fun _ _ h => h
  | some m =>
    cases o' with
    | none => exact js_ret (P := vB (true && (true || false))) (je_and (je_notN (d := dN m) (je_name 0)) fun _ => je_one (je_or (je_isN (d := .none) (je_name 1)) fun z => nomatch z)) fun _ _ h => h
    | some n =>
      refine js_ret (P := vB (true && (false || decide ((m : Int) < (n : Int))))) (je_and (je_notN (d := dN m) (je_name 0)) fun _ => je_one (je_or (je_isN (d := dN n) (je_name 1)) fun _ => je_one (je_lt (je_name 0) (je_name 1)))) fun v K h => ?_
      rw [show v = _ from h]
      show V.bl _ = V.bl _
      congr 1
      rw [Bool.true_and, Bool.false_or]
      exact decide_eq_decide.mpr Int.ofNat_lt
end
end Lk
end

section
set_option Elab.async false
set_option linter.all false
set_option maxRecDepth 100000
set_option maxHeartbeats 1000000
/-! The prices alone, the ways of one's own. -/
namespace Lk
open PySem PySem.Spec L2
open PyProof.Rows hiding St
open Evl (Ex)
open M (Bk Rl Mv Vl Wb Wy)
/-! ### new things -/
theorem vNew_vp {O : OP} {H : Hp} {v : V} {K : Hp} (h : (vNew O H).p v K) : O.vp.p v K := by
  obtain ⟨p, rfl, _, h3⟩ := h
  exact O.out (hid_ex _ _) rfl h3
theorem vNew_w {O : OP} {H H0 : Hp} (h : ∀ q, H q = none → H0 q = none) {v : V} {K : Hp} (hv : (vNew O H).p v K) : (vNew O H0).p v K := by
  obtain ⟨p, e, h2, h3⟩ := hv
  exact ⟨p, e, h p h2, h3⟩
section
variable {F : Fm} {Γ : Ct} {σ : L2.St} {H H' : Hp}
theorem Env.shownN (E : Env F Γ σ H) {p : Addr} {O : OP} {j : Nat} (hj : Γ.own[j]? = some (p, O)) : (vNew O F.H0).p (.ref p) (F.vw { Γ with own := Γ.own.eraseIdx j } H) := by
  have hm : (p, O) ∈ Γ.own := List.mem_of_getElem? hj
  have np : F.S (Γ.own.eraseIdx j) p = false := by
    cases q : F.S (Γ.own.eraseIdx j) p with
    | false => rfl
    | true =>
      rcases Fm.S_or.mp q with q | q
      · exact absurd (E.new _ hm) (F.dom _ q)
      · exact absurd q (erase_nd E.nd hj)
  refine ⟨p, rfl, E.new _ hm, O.st (hid_in np) (fun a o h => ?_) (E.own _ hm)⟩
  cases z : (a == p) with
  | true =>
    rw [show a = p from eq_of_beq z] at h
    rw [show F.vw Γ H p = none from hid_out (Fm.S_or.mpr (.inr (List.mem_map_of_mem hm)))] at h
    cases h
  | false =>
    rw [hid_in (S := fun b => b == p) z]
    exact hid_sub erase_sub a o h
def Ct.showN (Γ : Ct) (i j : Nat) (O : OP) (H0 : Hp) : Ct := { imm := Γ.imm.set i (some (vNew O H0)), own := Γ.own.eraseIdx j, fx := Γ.fx }
theorem Env.showN (E : Env F Γ σ H) {p : Addr} {O : OP} {i j : Nat} (hi : Γ.imm[i]? = some (some (vE (.ref p)))) (hj : Γ.own[j]? = some (p, O)) : Env F (Γ.showN i j O F.H0) σ H := by
  have E2 := E.drop j
  obtain ⟨v, a, b⟩ := E.imm i _ hi
  cases (show v = .ref p from b)
  have := E2.put (i := i) (P := vNew O F.H0) (v := .ref p) (E.shownN hj)
  have hs : σ.set i (some (.ref p)) = σ := by
    apply List.ext_getElem?
    intro k
    by_cases z : i = k
    · subst z
      rw [List.getElem?_set_self (List.getElem?_eq_some_iff.mp a).1, a]
    · rw [List.getElem?_set_ne z]
  rw [hs] at this
  exact this
theorem none_H0 (E : Env F Γ σ H) (s : Step F.T (F.S Γ.own) H H') {q : Addr} (hq : H' q = none) : F.H0 q = none := by
  have E1 := E.go s
  cases z : F.H0 q with
  | none => rfl
  | some o =>
    exfalso
    cases y : F.S0 q with
    | true => exact E1.hdom (Fm.S_or.mpr (.inl y)) hq
    | false =>
      have h0 : hid F.S0 F.H0 q = some o := by rw [hid_in y]; exact z
      have := hid_ex _ _ _ _ (E1.step.ex q o h0)
      rw [hq] at this
      cases this
variable {X : Cx} {e : Expr} {es : List Expr} {P : VP} {pos p : Pos}
theorem js_showN {O : OP} {a : Addr} {rest : List Stmt} {D : PD} (n j : Nat) (hi : Γ.imm[n]? = some (some (vE (.ref a)))) (hj : Γ.own[j]? = some (a, O)) (k : JS F X (Γ.showN n j O F.H0) rest D) : JS F X Γ rest D := js_of (fun σ H E => E.showN hi hj) k
theorem je_newN {O : OP} (h : JN F X Γ e O) : JE F X Γ e (vNew O F.H0) := fun σ H Q E k => h σ H Q E fun a H' s hp ho => k _ H' s (by
  have E1 := E.addOwn hp s ho
  have := E1.shownN (j := Γ.own.length) (p := a) (O := O) (by simp)
  rw [show (Γ.own ++ [(a, O)]).eraseIdx Γ.own.length = Γ.own by rw [List.eraseIdx_append_of_length_le (Nat.le_refl _), Nat.sub_self]; simp] at this
  exact this)
theorem je_callN {k : Nat} {x : Str} {α : Type} {pre : α → Th → Prop} {Pf : α → List VP} {R : α → Hp → VP} (c : Fc X.prog X.w X.K X.mg X.base k x (mkSp pre Pf R)) (hr : Room k X.A) (a : α) (hp : pre a F.T) (ha : JA F X Γ (e :: es) (Pf a)) (hR : ∀ H, (∀ q, H q = none → F.H0 q = none) → ∀ v K, (R a H).p v K → P.p v K) (hg : Gl X x := by rfl) (hdb : (x == ("__debug__" : Str)) = false := by decide)
    (he : starEach (e :: es) X.env = (false, eval e X.env) :: starEach es X.env := by rfl) (hpl : (backTo pos (starEach es X.env)).any (·.1) = false := by rfl) : JE F X Γ (.Call (.Name x p) (e :: es) [] pos) P :=
  fun σ H Q E kk => je_callH c hr a hp ha (Q := fun v H1 K => (∀ q, H1 q = none → F.H0 q = none) → P.p v K) (fun H v K h hn => hR H hn v K h) hg hdb he hpl σ H Q E fun v H1 H' s1 s2 h => kk v H' (s1.trans s2) (h fun q hq => none_H0 E s1 hq)
theorem vT2_mono {P1 P2 Q1 Q2 : VP} (h1 : ∀ v K, P1.p v K → Q1.p v K) (h2 : ∀ v K, P2.p v K → Q2.p v K) {v : V} {K : Hp} (h : (vT [P1, P2]).p v K) : (vT [Q1, Q2]).p v K := by
  obtain ⟨a, vs, e, g, hv⟩ := h
  cases hv with
  | cons a b => cases b with
    | cons c d => cases d; exact ⟨_, _, e, g, .cons (h1 _ _ a) (.cons (h2 _ _ c) .nil)⟩
end
end Lk
end

section
set_option Elab.async false
set_option linter.all false
set_option maxRecDepth 100000
set_option maxHeartbeats 1000000
/-! raw_alone, alone, own. -/
namespace Lk
open PySem PySem.Spec L2
open PyProof.Rows hiding St
open Evl (Ex)
open M (Bk Rl Mv Vl Wb Wy)
open M (PI Exa totO lkO btr)
theorem gs_step {b : Bk} {W : Wb} {ts : List Thg} {q : Thg → Nat} {t : Thg} {y : Wy} (h : PI b W ts q) (ht : M.Mk b W t) (hy : y ∈ M.usable b W t) :
    (btr (totO b W ts q t y) (lkO ts q t) = true → ∃ c, totO b W ts q t y = some c ∧ PI b W (M.addK ts t) (M.setQ q t c) ∧ (∀ x, Exa b W ts q x → Exa b W (M.addK ts t) (M.setQ q t c) x) ∧
      (M.tot b W (M.opt b W) t y = M.opt b W t → (∀ n ∈ M.needs b W t y, Exa b W ts q n) → Exa b W (M.addK ts t) (M.setQ q t c) t)) ∧
    (btr (totO b W ts q t y) (lkO ts q t) = false → M.tot b W (M.opt b W) t y = M.opt b W t → (∀ n ∈ M.needs b W t y, Exa b W ts q n) → Exa b W ts q t) := by
  refine ⟨fun hb => ?_, fun hb ho hn => (M.step_opt h ht hy ho hn).2 hb⟩
  cases e : totO b W ts q t y with
  | none => rw [e] at hb; cases hb
  | some c =>
    rw [e] at hb
    exact ⟨c, rfl, M.step_inv h ht hy e, fun x hx => M.step_ex h ht hy e hb hx, fun ho hn => (M.step_opt h ht hy ho hn).1 (by rw [e]; exact hb) c e⟩
theorem tot_len {b : Bk} {W : Wb} (ts : List Thg) (q : Thg → Nat) (h : PI b W ts q) : ts.length ≤ W.length * b.kn := by
  rw [← M.allT_len b W.length]
  exact M.nodup_len h.nd fun t ht => M.mem_allT.mpr (h.snd t ht).1.val
theorem Uv_len {b : Bk} {W : Wb} (v : Nat) : (M.Uv b W v).length ≤ b.kn := by
  unfold M.Uv
  rw [List.length_map]
  have := List.length_filter_le (fun k => @decide (M.Mk b W (v, k)) (Classical.propDecidable _)) (List.range b.kn)
  rw [List.length_range] at this
  exact this
theorem U_len {b : Bk} {W : Wb} : (M.U b W).length ≤ W.length * b.kn := by
  rw [← M.allT_len b W.length]
  exact List.length_filter_le _ _
theorem usable_len {b : Bk} (ok : b.ok) (W : Wb) (t : Thg) : (M.usable b W t).length ≤ 60 := by
  unfold M.usable
  exact Nat.le_trans (List.length_filter_le _ _) (ways_len ok _ _)
theorem opt_any {o : Option Nat} {v : V} {K K' : Hp} (h : (vD (optD o)).p v K) : (vD (optD o)).p v K' := by
  cases o with
  | none => exact vD_none.mpr (vD_none.mp h)
  | some n => exact vD_num.mpr (vD_num.mp h)
/-- the ways of one's own, in a dict -/
noncomputable def owD (b : Bk) (W : Wb) : List (D × VP) := (M.U b W).map fun t => (encT t, vD (wyD (M.ownW b W t)))
noncomputable def prD (b : Bk) (W : Wb) : List (D × VP) := pd (M.U b W) (M.opt b W)
/-- what the pass over a value keeps -/
structure GI (b : Bk) (W : Wb) (v r : Nat) (ts : List Thg) (q : Thg → Nat) : Prop where
  pi : PI b W ts q
  low : ∀ t, M.Mk b W t → t.1 < v → Exa b W ts q t
  rk : ∀ t ∈ M.Uv b W v, M.rk b W (M.Uv b W v) t < r → Exa b W ts q t
theorem GI.needs {b : Bk} {W : Wb} (ok : b.ok) (wok : M.Wok b W) {v r : Nat} {ts : List Thg} {q : Thg → Nat} (h : GI b W v r ts q) {t : Thg} (ht : t ∈ M.Uv b W v) (hr : M.rk b W (M.Uv b W v) t ≤ r) {y : Wy} (hy : y ∈ M.usable b W t) (ho : M.tot b W (M.opt b W) t y = M.opt b W t) : ∀ n ∈ M.needs b W t y, Exa b W ts q n := by
  intro n hn
  have hm := (M.mem_usable.mp hy).2 n hn
  have hlt := M.opt_lt ok hy ho hn
  obtain ⟨hv, htm⟩ := M.mem_Uv.mp ht
  have hle : n.1 ≤ t.1 := by
    rcases M.needs_in (ok := ok) wok htm.val.1 (M.mem_usable.mp hy).1 hn with ⟨z, _⟩ | ⟨z, _⟩ <;> omega
  by_cases e : n.1 = v
  · have hu : n ∈ M.Uv b W v := M.mem_Uv.mpr ⟨e, hm⟩
    exact h.rk n hu (Nat.lt_of_lt_of_le (M.rk_lt hu hlt) hr)
  · exact h.low n hm (by omega)
section
variable {P : Program} {w : World} {K : PySem.W.Frag} {mg : Str → Option Value} {base : Heap} {f : Addr} {fd : FuncData} {CB CW CR : Addr}
abbrev spRawAlone (P : Program) (w : World) (CB CW CR : Addr) : Sp := mkSp (α := Bk × Wb) (fun a _ => a.1.ok ∧ M.Wok a.1 a.2) (fun a => [bookV CB a.1, webV CW CR a.2]) (fun a H => vT [vNew (oX P w (prD a.1 a.2)) H, vNew (oX P w (owD a.1 a.2)) H])
theorem fc_raw_alone (g : Gk K mg CB CW CR) (cu : Fc P w K mg base 3 "usable_ways" (spUsableWays P w CB CW CR)) (ct : Fc P w K mg base 2 "total" (spTotal P w CB CW CR)) (cb : Fc P w K mg base 1 "better" spBetter) (cp : Fc P w K mg base 1 "price_of" (spPriceOf CB)) (F : FnP K "raw_alone" s_raw_alone f fd) (gm : mg "raw_alone" = some (.ref f)) : Fc P w K mg base 4 "raw_alone" (spRawAlone P w CB CW CR) := by
  classical
  refine fc_of F gm sc_raw_alone (F.bindsN fun _ _ _ _ _ _ us hl => match us, hl with | [_, _], _ => rfl) (fun _ => rfl) ?_
  rintro ⟨b, W⟩ Fr cdv A outer s E hr ⟨ok, wok⟩
  replace ok : b.ok := ok
  replace wok : M.Wok b W := wok
  have kn1 := ok.kn1
  have kn5 := ok.kn5
  have w200 := wok.len
  have small : W.length * b.kn < sizeLine := Nat.lt_of_le_of_lt (Nat.mul_le_mul w200 kn5) (by decide)
  have ul := U_len (b := b) (W := W)
  refine js_set (P := vX P w (useD b W)) 2 sc_raw_alone.nd (je_call cu (hr.mono (by decide)) (b, W) ⟨ok, wok⟩ (ja_cons (je_name 0) (ja1 (je_name 1))) (fun _ _ _ h => h)) ?_
  refine js_new 3 sc_raw_alone.nd jn_dict fun p => ?_
  refine js_for (fun v Γ => v ≤ W.length ∧ ∃ ts q, PI b W ts q ∧ (∀ t, M.Mk b W t → t.1 < v → Exa b W ts q t) ∧ Γ = ⟨[some (bookV CB b), some (webV CW CR W), some (vX P w (useD b W)), some (vE (.ref p)), none, none, none, none, none, none, none, none, none], [(p, oX P w (pd ts q))], []⟩) rfl rfl
    (ji_range1 (n := W.length) (g.fr _ (by decide)) (je_imp (je_lenT (ds := W.map vlD) g.fr (je_rows g (je_name 1))) (fun v K h => by rw [List.length_map] at h; exact h))) ⟨Nat.zero_le _, [], fun _ => 0, ⟨List.nodup_nil, fun t h => (nomatch h)⟩, fun t _ h => absurd h (Nat.not_lt_zero _), rfl⟩ ?_ ?_
  · -- a value
    rintro v P' Γ1 hP ⟨hvl, ts, q, hpi, hlow, rfl⟩ vv Pc
    rw [List.getElem?_map] at hP
    obtain ⟨j, e1, rfl⟩ := Option.map_eq_some_iff.mp hP
    obtain ⟨hv, e3⟩ := List.getElem?_eq_some_iff.mp e1
    rw [List.getElem_range] at e3
    subst e3
    rw [List.length_range] at hv
    refine ⟨_, _, jg_name 4 sc_raw_alone.nd, ?_⟩
    refine js_setLc 5 [("kind", 12)] (List.range b.kn) (fun k => vN k) (fun k => decide (M.Mk b W (v, k))) (fun k => vD (encT (v, k))) rfl sc_raw_alone.nd (blkOk_by (by rfl))
      (ji_range1 (n := b.kn) (g.fr _ (by decide)) (je_kn g (je_name 0))) (by rw [List.length_range]; exact Nat.lt_of_le_of_lt kn5 (by decide)) ?_ (fun p5 => ?_) (sw_true rfl rfl rfl rfl)
    · intro k hk A' O v' Pc'
      refine jelt1 12 sc_raw_alone.nd fun s H0 C cl fp => ⟨jts_one (jt_in (k := encT (v, k)) hr (rdx (useD b W)) (je_tupD (ds := [dN v, dN k]) (ja_cons (je_name 4) (ja1 (je_name 12)))) (je_name 2) ?_ (encT_d8 _)), fun _ => je_tupD (ds := [dN v, dN k]) (ja_cons (je_name 4) (ja1 (je_name 12)))⟩
      exact wd_in.trans (decide_eq_decide.mpr M.mem_U)
    have eUv : ((List.range b.kn).filter fun k => decide (M.Mk b W (v, k))).map (fun k => vD (encT (v, k))) = (M.Uv b W v).map fun t => vD (encT t) := by
      unfold M.Uv
      rw [List.map_map]
      rfl
    rw [eUv]
    refine js_show 5 1 rfl rfl ?_
    refine js_for (fun r Γ => r ≤ (M.Uv b W v).length ∧ ∃ ts q, GI b W v r ts q ∧ Γ = ⟨[some (bookV CB b), some (webV CW CR W), some (vX P w (useD b W)), some (vE (.ref p)), some (vN v), some (vL ((M.Uv b W v).map fun t => vD (encT t))), none, none, none, none, none, none, none], [(p, oX P w (pd ts q))], [(vv, Pc)]⟩) rfl rfl
      (ji_lst (je_name 5)) ⟨Nat.zero_le _, ts, q, ⟨hpi, hlow, fun t _ h => absurd h (Nat.not_lt_zero _)⟩, rfl⟩ ?_ ?_
    · -- a round
      rintro r P' Γ1 hP ⟨hrl, ts, q, hG, rfl⟩ v2 Pc2
      have hrn : r < (M.Uv b W v).length := by
        have := (List.getElem?_eq_some_iff.mp hP).1
        rwa [List.length_map] at this
      refine ⟨_, _, jg_name 6 sc_raw_alone.nd, js_wk [some (bookV CB b), some (webV CW CR W), some (vX P w (useD b W)), some (vE (.ref p)), some (vN v), some (vL ((M.Uv b W v).map fun t => vD (encT t))), none, none, none, none, none, none, none] (by repeat' first | exact True.intro | refine ⟨fun _ _ h => h, ?_⟩) ?_⟩
      refine js_for (fun i Γ => i ≤ (M.Uv b W v).length ∧ ∃ ts q, GI b W v r ts q ∧ (∀ t ∈ (M.Uv b W v).take i, M.rk b W (M.Uv b W v) t < r + 1 → Exa b W ts q t) ∧ Γ = ⟨[some (bookV CB b), some (webV CW CR W), some (vX P w (useD b W)), some (vE (.ref p)), some (vN v), some (vL ((M.Uv b W v).map fun t => vD (encT t))), none, none, none, none, none, none, none], [(p, oX P w (pd ts q))], [(v2, Pc2), (vv, Pc)]⟩) rfl rfl
        (ji_lst (je_name 5)) ⟨Nat.zero_le _, ts, q, hG, fun t h => (nomatch h), rfl⟩ ?_ ?_
      · -- a thing
        rintro i P' Γ1 hP ⟨hil, ts, q, hG, hpre, rfl⟩ v3 Pc3
        rw [List.getElem?_map] at hP
        obtain ⟨t, e1, rfl⟩ := Option.map_eq_some_iff.mp hP
        obtain ⟨hi, e3⟩ := List.getElem?_eq_some_iff.mp e1
        have htU : t ∈ M.Uv b W v := List.mem_of_getElem? e1
        obtain ⟨htv, htm⟩ := M.mem_Uv.mp htU
        refine ⟨_, _, jg_name 7 sc_raw_alone.nd, ?_⟩
        refine js_for (fun j Γ => j ≤ (M.usable b W t).length ∧ ∃ ts q, GI b W v r ts q ∧ (∀ t ∈ (M.Uv b W v).take i, M.rk b W (M.Uv b W v) t < r + 1 → Exa b W ts q t) ∧ (M.rk b W (M.Uv b W v) t < r + 1 → M.ownW b W t ∈ (M.usable b W t).take j → Exa b W ts q t) ∧ Γ = ⟨[some (bookV CB b), some (webV CW CR W), some (vX P w (useD b W)), some (vE (.ref p)), some (vN v), some (vL ((M.Uv b W v).map fun t => vD (encT t))), none, some (vD (encT t)), none, none, none, none, none], [(p, oX P w (pd ts q))], [(v3, Pc3), (v2, Pc2), (vv, Pc)]⟩) rfl rfl
          (ji_lst (je_ixX hr (rdx (useD b W)) (je_name 2) (je_name 7) (wd_some (M.mem_U.mpr htm)) rfl (encT_d8 t))) ⟨Nat.zero_le _, ts, q, hG, hpre, fun _ h => (nomatch h), rfl⟩ ?_ ?_
        · -- a way
          rintro j P' Γ1 hP ⟨hjl, ts, q, hG, hpre, hown, rfl⟩ v4 Pc4
          rw [List.getElem?_map] at hP
          obtain ⟨y, e4, rfl⟩ := Option.map_eq_some_iff.mp hP
          obtain ⟨hj, e5⟩ := List.getElem?_eq_some_iff.mp e4
          have hy : y ∈ M.usable b W t := List.mem_of_getElem? e4
          have hnd : Nd b W t y := ⟨ok, wok, htm.val.1, (M.mem_usable.mp hy).1⟩
          have take1 : ∀ z, z ∈ (M.usable b W t).take (j + 1) → z ∈ (M.usable b W t).take j ∨ z = y := fun z hz => by
            rw [List.take_succ, e4] at hz
            rcases List.mem_append.mp hz with h | h
            · exact .inl h
            · exact .inr (by simpa using h)
          have hown' := M.ownW_own htm
          have ndsO : M.rk b W (M.Uv b W v) t < r + 1 → y = M.ownW b W t → ∀ n ∈ M.needs b W t y, Exa b W ts q n := fun h1 h2 => hG.needs ok wok htU (Nat.le_of_lt_succ h1) hy (by rw [h2]; exact hown'.2.1)
          obtain ⟨gs1, gs2⟩ := gs_step hG.pi htm hy
          refine ⟨_, _, jg_name 8 sc_raw_alone.nd, ?_⟩
          refine js_set (P := vD (optD (totO b W ts q t y))) 9 sc_raw_alone.nd (je_callO 0 ct (hr.mono (by decide)) (b, W, t, y, ts, q) hnd (ja_cons (je_name 0) (ja_cons (je_name 1) (ja_cons (je_name 7) (ja_cons (je_name 8) (ja1 (je_name 3)))))) (.same (.same (.same (.same (.own .nil))))) (fun _ _ _ _ h => opt_any h)) ?_
          refine js_ifLast (B := (· = btr (totO b W ts q t y) (lkO ts q t))) (jt_val (je_call cb (hr.mono (by decide)) (totO b W ts q t y, lkO ts q t) trivial (ja_cons (je_name 9) (ja1 (je_get2 hr (rdxO 0) (je_name 3) (je_name 7) je_none (fun P' e v K h => ?_) (fun e v K h => ?_) (encT_d8 t)))) (fun _ _ _ h => h))) (fun hb => ?_) fun hb => ?_
          · by_cases hm : t ∈ ts
            · rw [pd_some hm] at e
              cases e
              unfold M.lkO
              rw [if_pos hm]
              exact h
            · rw [pd_none hm] at e; cases e
          · by_cases hm : t ∈ ts
            · rw [pd_some hm] at e; cases e
            · unfold M.lkO
              rw [if_neg hm]
              exact h
          · obtain ⟨c, ec, n1, n2, n3⟩ := gs1 hb.symm
            rw [ec]
            refine js_put (k := encT t) (Pv := vN c) 0 hr (je_name 9) (je_name 3) (je_name 7) (by rw [pd_len]; have := tot_len ts q hG.pi; omega) ?_ rfl rfl (encT_d8 _)
            refine js_nil ⟨_, ⟨hj, M.addK ts t, M.setQ q t c, ⟨n1, fun x a a2 => n2 x (hG.low x a a2), fun x a a2 => n2 x (hG.rk x a a2)⟩, fun x a a2 => n2 x (hpre x a a2), fun hk ho => ?_, rfl⟩, (by repeat' first | exact True.intro | refine ⟨fun _ _ h => h, ?_⟩), ?_, rfl⟩
            · rcases take1 _ ho with h | h
              · exact n2 t (hown hk h)
              · exact n3 (by rw [← h]; exact hown'.2.1) (ndsO hk h.symm)
            · show [(p, oX P w (putP (pd ts q) (encT t) (vN c)))] = _
              rw [pd_put]
          · refine js_nil ⟨_, ⟨hj, ts, q, hG, hpre, fun hk ho => ?_, rfl⟩, (by repeat' first | exact True.intro | refine ⟨fun _ _ h => h, ?_⟩), rfl, rfl⟩
            rcases take1 _ ho with h | h
            · exact hown hk h
            · exact gs2 hb.symm (by rw [← h]; exact hown'.2.1) (ndsO hk h.symm)
        · rintro Γ' ⟨_, ts, q, hG, hpre, hown, rfl⟩
          rw [List.length_map, List.take_length] at hown
          refine js_nil ⟨_, ⟨hi, ts, q, hG, fun x hx hk => ?_, rfl⟩, (by repeat' first | exact True.intro | refine ⟨fun _ _ h => h, ?_⟩), rfl, rfl⟩
          rw [List.take_succ, e1] at hx
          rcases List.mem_append.mp hx with h | h
          · exact hpre x h hk
          · have : x = t := by simpa using h
            subst this
            exact hown hk (M.ownW_own htm).1
      · rintro Γ' ⟨_, ts, q, hG, hpre, rfl⟩
        rw [List.length_map, List.take_length] at hpre
        exact js_nil ⟨_, ⟨hrn, ts, q, ⟨hG.pi, hG.low, hpre⟩, rfl⟩, (by repeat' first | exact True.intro | refine ⟨fun _ _ h => h, ?_⟩), rfl, rfl⟩
    · rintro Γ' ⟨_, ts, q, hG, rfl⟩
      rw [List.length_map] at hG
      refine js_nil ⟨_, ⟨hv, ts, q, hG.pi, fun t ht hlt => ?_, rfl⟩, (by repeat' first | exact True.intro | refine ⟨fun _ _ h => h, ?_⟩), rfl, rfl⟩
      by_cases e : t.1 = v
      · have hu := M.mem_Uv.mpr ⟨e, ht⟩
        exact hG.rk t hu (M.rk_len hu)
      · exact hG.low t ht (by omega)
  · rintro Γ' ⟨_, ts, q, hpi, hlow, rfl⟩
    rw [List.length_map, List.length_range] at hlow
    have hex : ∀ t, M.Mk b W t → Exa b W ts q t := fun t ht => hlow t ht ht.val.1
    refine js_show 3 0 rfl rfl ?_
    refine js_new 10 sc_raw_alone.nd jn_dict fun p10 => ?_
    have prAt : ∀ t, M.Mk b W t → lk (pd ts q) (encT t) = some (vN (M.opt b W t)) := fun t ht => by
      rw [pd_some (hex t ht).1, (hex t ht).2]
    refine js_for (fun i Γ => i ≤ (M.U b W).length ∧ Γ = ⟨[some (bookV CB b), some (webV CW CR W), some (vX P w (useD b W)), some (vX P w (pd ts q)), none, none, none, none, none, none, some (vE (.ref p10)), none, none], [(p10, oX P w (((M.U b W).take i).map fun t => (encT t, vD (wyD (M.ownW b W t)))))], []⟩) rfl rfl
      (ji_keysX (je_name 2)) ⟨Nat.zero_le _, rfl⟩ ?_ ?_
    · rintro i P' Γ1 hP ⟨hil, rfl⟩ v1 Pc1
      have hP2 : ((M.U b W).map fun t => vD (encT t))[i]? = some P' := by
        rw [← hP]
        unfold useD wd
        rw [List.map_map]
        rfl
      rw [List.getElem?_map] at hP2
      obtain ⟨t, e1, rfl⟩ := Option.map_eq_some_iff.mp hP2
      obtain ⟨hi, e3⟩ := List.getElem?_eq_some_iff.mp e1
      have htU : t ∈ M.U b W := List.mem_of_getElem? e1
      have htm := M.mem_U.mp htU
      refine ⟨_, _, jg_name 7 sc_raw_alone.nd, ?_⟩
      have nd_of : ∀ y ∈ M.usable b W t, Nd b W t y := fun y hy => ⟨ok, wok, htm.val.1, (M.mem_usable.mp hy).1⟩
      refine js_setLc 11 [("way", 8)] (M.usable b W t) (fun y => vD (wyD y)) (fun y => decide (M.tot b W (M.opt b W) t y = M.opt b W t)) (fun y => vD (wyD y)) rfl sc_raw_alone.nd (blkOk_by (by rfl))
        (ji_lst (je_ixX hr (rdx (useD b W)) (je_name 2) (je_name 7) (wd_some htU) rfl (encT_d8 t))) (Nat.lt_of_le_of_lt (usable_len ok W t) (by decide)) ?_ (fun p11 => ?_) (sw_true rfl rfl rfl rfl)
      · intro y hy A' O v' Pc'
        refine jelt1 8 sc_raw_alone.nd fun s H0 C cl fp => ⟨jts_one (jt_imp (jt_eqD (d := dN (M.tot b W (M.opt b W) t y)) (e := dN (M.opt b W t)) hr (je_call ct (hr.mono (by decide)) (b, W, t, y, ts, q) (nd_of y hy) (ja_cons (je_name 0) (ja_cons (je_name 1) (ja_cons (je_name 7) (ja_cons (je_name 8) (ja1 (je_name 3)))))) (fun H v K h => ?_)) (je_ixX hr (rdx (pd ts q)) (je_name 3) (je_name 7) (prAt t htm) rfl (encT_d8 t))) fun bb h => h.trans (dN_dec _ _)), fun _ => je_name 8⟩
        have h : (vD (optD (totO b W ts q t y))).p v K := h
        rw [M.exa_tot fun n hn => hex n ((M.mem_usable.mp hy).2 n hn)] at h
        exact h
      refine js_show 11 1 rfl rfl ?_
      have hown := M.ownW_own htm
      have hmem : ∀ y, y ∈ (M.usable b W t).filter (fun y => decide (M.tot b W (M.opt b W) t y = M.opt b W t)) ↔ y ∈ M.usable b W t ∧ M.tot b W (M.opt b W) t y = M.opt b W t := fun y => by rw [List.mem_filter, decide_eq_true_eq]
      have hlen : ((M.usable b W t).filter (fun y => decide (M.tot b W (M.opt b W) t y = M.opt b W t))).length ≤ 60 := Nat.le_trans (List.length_filter_le _ _) (usable_len ok W t)
      generalize hL : (M.usable b W t).filter (fun y => decide (M.tot b W (M.opt b W) t y = M.opt b W t)) = L at hmem hlen
      cases L with
      | nil => exact absurd ((hmem _).mpr ⟨hown.1, hown.2.1⟩) (fun z => nomatch z)
      | cons a l =>
        have hmin : M.leastOf (M.pwLt b) a l = M.ownW b W t := M.Own.uniq (M.least_own hmem) hown
        refine js_put (k := encT t) (Pv := vD (wyD (M.ownW b W t))) 0 hr (je_ixT (ds := [dN (M.price b (M.ownW b W t)), wyD (M.ownW b W t)]) (i := 1) (je_min (d := pwD b a) (ds := l.map (pwD b)) rfl hr g.fr (je_imp (je_new (jn_lc [("way", 8)] (a :: l) (fun y => vD (wyD y)) (fun _ => true) (fun y => vD (pwD b y)) rfl sc_raw_alone.nd (blkOk_by (by rfl)) (ji_lst (je_name 11)) (Nat.lt_of_le_of_lt hlen (by decide)) ?_)) fun v K h => ?_) ?_ ?_ ?_) je_int rfl) (je_name 10) (je_name 7) ?_ ?_ rfl rfl (encT_d8 _)
        · intro y hy A' O v' Pc'
          have hyu := ((hmem y).mp hy).1
          exact jelt1 8 sc_raw_alone.nd fun s H0 C cl fp => ⟨jts_nil, fun _ => je_tupD (ds := [dN (M.price b y), wyD y]) (ja_cons (je_call cp (hr.mono (by decide)) (b, y) ⟨_, _, (M.mem_usable.mp hyu).1⟩ (ja_cons (je_name 0) (ja1 (je_name 8))) (fun _ _ _ h => h)) (ja1 (je_name 8)))⟩
        · rw [List.filter_eq_self.mpr (fun _ _ => rfl)] at h
          rw [← List.map_cons (f := pwD b), List.map_map]
          exact h
        · exact pw_alike b (a :: l)
        · intro x hx
          rw [← List.map_cons (f := pwD b)] at hx
          obtain ⟨y, _, rfl⟩ := List.mem_map.mp hx
          exact Nat.le_trans (pwD_fn b y).2 (by decide : 2 ≤ 60)
        · intro x hx e
          rw [← List.map_cons (f := pwD b)] at hx
          obtain ⟨y, _, rfl⟩ := List.mem_map.mp hx
          rw [minD_enc (pw_lt b), hmin] at e
          exact data_inj e
        · rw [List.length_map, List.length_take]; omega
        · refine js_nil ⟨_, ⟨hi, rfl⟩, (by repeat' first | exact True.intro | refine ⟨fun _ _ h => h, ?_⟩), ?_, rfl⟩
          show [(p10, oX P w (putP _ (encT t) (vD (wyD (M.ownW b W t)))))] = _
          rw [putP_new (lk_out encT_inj' ?_), List.take_succ, e1, List.map_append]
          · rfl
          · intro hmt
            obtain ⟨j, hj1, hj2⟩ := List.mem_take_iff_getElem.mp hmt
            have hji : j < i := by omega
            have := (List.pairwise_iff_getElem.mp (M.U_nodup b W)) j i (by omega) hi hji
            exact this (hj2.trans e3.symm)
    · rintro Γ' ⟨_, rfl⟩
      rw [show ((useD b W).map fun q => vD q.1).length = (M.U b W).length by rw [List.length_map, show (useD b W).length = _ from wd_len _ _], List.take_length]
      refine js_showN 10 0 rfl rfl ?_
      refine js_ret (je_tup (ja_cons (je_newN (jn_dc [("thing", 7)] (M.U b W) (fun t => vD (encT t)) (fun _ => true) encT (fun t => vN (M.opt b W t)) hr rfl sc_raw_alone.nd (blkOk_by (by rfl))
        (ji_imp (ji_keysX (je_name 2)) ?_) (Nat.lt_of_le_of_lt ul small) ?_ (fun t _ => ⟨rfl, encT_d8 t⟩) ?_)) (ja1 (je_name 10)))) fun v K h => ?_
      · unfold useD wd
        rw [List.map_map]
        rfl
      · rw [List.filter_eq_self.mpr (fun _ _ => rfl)]
        exact List.Pairwise.map _ (fun a c h e => h (encT_inj e)) (M.U_nodup b W)
      · intro t ht A' O v Pc
        exact jent1 7 sc_raw_alone.nd fun s H0 C cl fp => ⟨jts_nil, fun _ => ⟨je_name 7, je_ixX hr (rdx (pd ts q)) (je_name 3) (je_name 7) (prAt t (M.mem_U.mp ht)) rfl (encT_d8 t)⟩⟩
      · rw [List.filter_eq_self.mpr (fun _ _ => rfl)] at h
        exact h
end
end Lk
end

section
set_option Elab.async false
set_option linter.all false
set_option maxRecDepth 100000
set_option maxHeartbeats 1000000
/-! alone, own, choices. -/
namespace Lk
open PySem PySem.Spec L2
open PyProof.Rows hiding St
open Evl (Ex)
open M (Bk Rl Mv Vl Wb Wy)
/-- where a way leads along a move -/
def srcO (b : Bk) (t : Thg) : Wy → Option Thg
  | .mv n => some (t.1, (b.mo n).frm)
  | .ru _ => none
def optT : Option Thg → D
  | none => .none
  | some t => encT t
theorem optT_fine (o : Option Thg) : fine (optT o) = true := by
  cases o with
  | none => exact (Fn.none (n := 0)).fine (by decide)
  | some t => rfl
theorem optT_ne {o : Option Thg} {t : Thg} (h : ∀ x, o = some x → x ≠ t) : optT o ≠ encT t := by
  cases o with
  | none => exact fun z => nomatch z
  | some x => exact fun z => h x rfl (encT_inj z)
theorem src_needs {b : Bk} {W : Wb} {t x : Thg} {y : Wy} (h : srcO b t y = some x) : x ∈ M.needs b W t y := by
  cases y with
  | mv n => cases h; exact List.mem_singleton_self _
  | ru n => cases h
section
variable {P : Program} {w : World} {K : PySem.W.Frag} {mg : Str → Option Value} {base : Heap} {f : Addr} {fd : FuncData} {CB CW CR : Addr}
abbrev spAlone (P : Program) (w : World) (CB CW CR : Addr) : Sp := mkSp (α := Bk × Wb) (fun a _ => a.1.ok ∧ M.Wok a.1 a.2) (fun a => [bookV CB a.1, webV CW CR a.2]) (fun a H => vNew (oX P w (prD a.1 a.2)) H)
abbrev spOwn (P : Program) (w : World) (CB CW CR : Addr) : Sp := mkSp (α := Bk × Wb) (fun a _ => a.1.ok ∧ M.Wok a.1 a.2) (fun a => [bookV CB a.1, webV CW CR a.2]) (fun a H => vNew (oX P w (owD a.1 a.2)) H)
theorem fc_alone (g : Gk K mg CB CW CR) (cc : Fc P w K mg base 3 "check_web" (spCheckWeb CB CW CR)) (cr : Fc P w K mg base 4 "raw_alone" (spRawAlone P w CB CW CR)) (F : FnP K "alone" s_alone f fd) (gm : mg "alone" = some (.ref f)) : Fc P w K mg base 5 "alone" (spAlone P w CB CW CR) := by
  refine fc_of F gm sc_alone (F.bindsN fun _ _ _ _ _ _ us hl => match us, hl with | [_, _], _ => rfl) (fun _ => rfl) ?_
  rintro ⟨b, W⟩ Fr cdv A outer s E hr hp
  refine js_drop (P := vNone) (je_call cc (hr.mono (by decide)) (b, W) hp.2 (ja_cons (je_name 0) (ja1 (je_name 1))) (fun _ _ _ h => h)) ?_
  exact js_ret (je_ixP (ps := [vNew (oX P w (prD b W)) Fr.H0, vNew (oX P w (owD b W)) Fr.H0]) (i := 0) (je_callN cr hr (b, W) hp (ja_cons (je_name 0) (ja1 (je_name 1))) fun H hn v K h => vT2_mono (fun _ _ q => vNew_w hn q) (fun _ _ q => vNew_w hn q) h) je_int rfl) fun _ _ h => h
theorem fc_own (g : Gk K mg CB CW CR) (cc : Fc P w K mg base 3 "check_web" (spCheckWeb CB CW CR)) (cr : Fc P w K mg base 4 "raw_alone" (spRawAlone P w CB CW CR)) (F : FnP K "own" s_own f fd) (gm : mg "own" = some (.ref f)) : Fc P w K mg base 5 "own" (spOwn P w CB CW CR) := by
  refine fc_of F gm sc_own (F.bindsN fun _ _ _ _ _ _ us hl => match us, hl with | [_, _], _ => rfl) (fun _ => rfl) ?_
  rintro ⟨b, W⟩ Fr cdv A outer s E hr hp
  refine js_drop (P := vNone) (je_call cc (hr.mono (by decide)) (b, W) hp.2 (ja_cons (je_name 0) (ja1 (je_name 1))) (fun _ _ _ h => h)) ?_
  exact js_ret (je_ixP (ps := [vNew (oX P w (prD b W)) Fr.H0, vNew (oX P w (owD b W)) Fr.H0]) (i := 1) (je_callN cr hr (b, W) hp (ja_cons (je_name 0) (ja1 (je_name 1))) fun H hn v K h => vT2_mono (fun _ _ q => vNew_w hn q) (fun _ _ q => vNew_w hn q) h) je_int rfl) fun _ _ h => h
abbrev spSourceOf (CB : Addr) : Sp := mkSp (α := Bk × Thg × Wy) (fun a _ => ∃ op kind, a.2.2 ∈ M.waysOf a.1 op kind) (fun a => [bookV CB a.1, vD (encT a.2.1), vD (wyD a.2.2)]) (fun a _ => vD (optT (srcO a.1 a.2.1 a.2.2)))
theorem fc_source_of (g : Gk K mg CB CW CR) (F : FnP K "source_of" s_source_of f fd) (gm : mg "source_of" = some (.ref f)) : Fc P w K mg base 1 "source_of" (spSourceOf CB) := by
  refine fc_of F gm sc_source_of (F.bindsN fun _ _ _ _ _ _ us hl => match us, hl with | [_, _, _], _ => rfl) (fun _ => rfl) ?_
  rintro ⟨b, t, y⟩ Fr cdv A outer s E hr ⟨op, kind, hy⟩
  rcases M.mem_waysOf.mp hy with ⟨n, rfl, h1, h2⟩ | ⟨n, rfl, h1, h2, h3⟩
  · refine js_ret (P := vD (encT (t.1, (b.mo n).frm))) (je_if (jt_eqD hr (je_ixT (d := .text sMove) (je_name 2) je_int rfl) je_str fine_move fine_move) (fun _ => ?_) fun z => nomatch z) (fun _ _ h => h)
    exact je_tupD (ds := [dN t.1, dN (b.mo n).frm]) (ja_cons (je_ixT (ds := [dN t.1, dN t.2]) (je_name 1) je_int rfl) (ja1 (je_ixT (ds := [dN (b.mo n).frm, dN (b.mo n).to, dN (b.mo n).pr]) (je_ixT (je_mvs g (je_name 0)) (je_ixT (d := dN n) (je_name 2) je_int rfl) (at_map mvD (by rw [M.Bk.mo, List.getD_eq_getElem?_getD, List.getElem?_eq_getElem h1]; rfl))) je_int rfl)))
  · exact js_ret (P := vNone) (je_if (jt_eqD hr (je_ixT (d := .text sRule) (je_name 2) je_int rfl) je_str fine_rule fine_move) (fun z => nomatch z) fun _ => je_none) (fun _ _ h => h)
theorem ow_at {b : Bk} {W : Wb} {t : Thg} (h : M.Mk b W t) : lk (owD b W) (encT t) = some (vD (wyD (M.ownW b W t))) := lk_at encT_inj' (M.mem_U.mpr h)
theorem own_way {b : Bk} {W : Wb} {t : Thg} (h : M.Mk b W t) : M.ownW b W t ∈ M.ways b W t := (M.mem_usable.mp (M.ownW_own h).1).1
abbrev spComesBack (P : Program) (w : World) (CB : Addr) : Sp := mkSp (α := Bk × Wb × Thg) (fun a _ => a.1.ok ∧ M.Mk a.1 a.2.1 a.2.2) (fun a => [bookV CB a.1, vX P w (owD a.1 a.2.1), vD (encT a.2.2)]) (fun a _ => vB false)
theorem fc_comes_back (g : Gk K mg CB CW CR) (cs : Fc P w K mg base 1 "source_of" (spSourceOf CB)) (F : FnP K "comes_back" s_comes_back f fd) (gm : mg "comes_back" = some (.ref f)) : Fc P w K mg base 2 "comes_back" (spComesBack P w CB) := by
  refine fc_of F gm sc_comes_back (F.bindsN fun _ _ _ _ _ _ us hl => match us, hl with | [_, _, _], _ => rfl) (fun _ => rfl) ?_
  rintro ⟨b, W, t⟩ Fr cdv A outer s E hr ⟨ok, ht⟩
  replace ok : b.ok := ok
  replace ht : M.Mk b W t := ht
  have kn5 := ok.kn5
  have srcOk : ∀ x, M.Mk b W x → ∀ z, srcO b x (M.ownW b W x) = some z → M.Mk b W z ∧ M.opt b W z < M.opt b W x := fun x hx z hz => by
    have h := M.ownW_own hx
    have hn := src_needs (W := W) hz
    exact ⟨(M.mem_usable.mp h.1).2 z hn, M.opt_lt ok h.1 h.2.1 hn⟩
  refine js_set (P := vD (optT (srcO b t (M.ownW b W t)))) 3 sc_comes_back.nd (je_call cs (hr.mono (by decide)) (b, t, M.ownW b W t) ⟨_, _, own_way ht⟩ (ja_cons (je_name 0) (ja_cons (je_name 2) (ja1 (je_ixX hr (rdx (owD b W)) (je_name 1) (je_name 2) (ow_at ht) rfl (encT_d8 t))))) (fun _ _ _ h => h)) ?_
  refine js_for (fun i Γ => ∃ o : Option Thg, (∀ x, o = some x → M.Mk b W x ∧ M.opt b W x < M.opt b W t) ∧ Γ = ⟨[some (bookV CB b), some (vX P w (owD b W)), some (vD (encT t)), some (vD (optT o)), none], [], []⟩) rfl rfl
    (ji_range1 (n := b.kn) (g.fr _ (by decide)) (je_kn g (je_name 0))) ⟨_, srcOk t ht, rfl⟩ ?_ ?_
  · rintro i P' Γ1 hP ⟨o, ho, rfl⟩ vv Pc
    rw [List.getElem?_map] at hP
    obtain ⟨j, e1, rfl⟩ := Option.map_eq_some_iff.mp hP
    refine ⟨_, _, jg_name 4 sc_comes_back.nd, ?_⟩
    refine js_skipB (jt_eqD hr (je_name 3) (je_name 2) (optT_fine o) rfl) (decide_eq_false (optT_ne fun x hx e => by have := (ho x hx).2; rw [e] at this; exact Nat.lt_irrefl _ this)) ?_
    refine js_ifLast (jt_notN (d := optT o) (je_name 3)) (fun hb => ?_) fun hb => ?_
    · cases o with
      | none => exact nomatch hb
      | some x =>
        obtain ⟨hx, hl⟩ := ho x rfl
        refine js_set (P := vD (optT (srcO b x (M.ownW b W x)))) 3 sc_comes_back.nd (je_call cs (hr.mono (by decide)) (b, x, M.ownW b W x) ⟨_, _, own_way hx⟩ (ja_cons (je_name 0) (ja_cons (je_name 3) (ja1 (je_ixX hr (rdx (owD b W)) (je_name 1) (je_name 3) (ow_at hx) rfl (encT_d8 x))))) (fun _ _ _ h => h)) ?_
        exact js_nil ⟨_, ⟨_, fun z hz => ⟨(srcOk x hx z hz).1, Nat.lt_trans (srcOk x hx z hz).2 hl⟩, rfl⟩, (by repeat' first | exact True.intro | refine ⟨fun _ _ h => h, ?_⟩), rfl, rfl⟩
    · exact js_nil ⟨_, ⟨o, ho, rfl⟩, (by repeat' first | exact True.intro | refine ⟨fun _ _ h => h, ?_⟩), rfl, rfl⟩
  · rintro Γ' ⟨o, ho, rfl⟩
    exact js_ret je_bl fun _ _ h => h
abbrev spIsGiving (CB CW CR : Addr) : Sp := mkSp (α := Bk × Wb × Thg × Wy) (fun a _ => Nd a.1 a.2.1 a.2.2.1 a.2.2.2) (fun a => [bookV CB a.1, webV CW CR a.2.1, vD (encT a.2.2.1), vD (wyD a.2.2.2)]) (fun _ _ => vB true)
theorem fc_is_giving (g : Gk K mg CB CW CR) (cr : Fc P w K mg base 2 "raw_ways" (spRawWays CB CW CR)) (F : FnP K "is_giving" s_is_giving f fd) (gm : mg "is_giving" = some (.ref f)) : Fc P w K mg base 3 "is_giving" (spIsGiving CB CW CR) := by
  refine fc_of F gm sc_is_giving (F.bindsN fun _ _ _ _ _ _ us hl => match us, hl with | [_, _, _, _], _ => rfl) (fun _ => rfl) ?_
  rintro ⟨b, W, t, y⟩ Fr cdv A outer s E hr hn
  replace hn : Nd b W t y := hn
  obtain ⟨ok, wok, ht, hy⟩ := hn
  obtain ⟨tx, n, e⟩ : ∃ tx n, wyD y = .tup [.text tx, dN n] := by cases y <;> exact ⟨_, _, rfl⟩
  have nm : ∀ {im : Ct}, True := fun {_} => trivial
  refine js_wk [some (bookV CB b), some (webV CW CR W), some (vD (encT t)), some (vD (.tup [.text tx, dN n]))] (by rw [← e]; exact WkI.refl _) ?_
  refine js_skipB (jt_w (jw_or (jt_not (jt_val (je_isiTup g.fr (je_name 3)))) fun _ => jw_or (jt_neD hr (je_lenT g.fr (je_name 3)) je_int) fun _ => jw_or (jt_not (jt_val (je_isiStr g.fr (je_ixT (je_name 3) je_int rfl)))) fun _ => jw_or1 (jt_val (je_isiBool (i := (n : Int)) g.fr (je_ixT (d := dN n) (je_name 3) je_int rfl))))) rfl ?_
  have fnl : ∀ d ∈ (M.ways b W t).map wyD, Fn 1 d := fun d hd => by
    obtain ⟨n, _, rfl⟩ := List.mem_map.mp hd
    exact wyD_fn n
  refine js_ret (P := vB (true && decide (wyD y ∈ (M.ways b W t).map wyD))) (je_and (je_isiInt (i := (n : Int)) g.fr (je_ixT (d := dN n) (je_name 3) je_int rfl)) fun _ => je_one (je_inL hr (by rw [List.map_map]; exact rdl _) (je_imp (je_name 3) fun v K h => by rw [e]; exact h) (je_call cr (hr.mono (by decide)) (b, W, t) ⟨ok, ht⟩ (ja_cons (je_name 0) (ja_cons (je_name 1) (ja1 (je_name 2)))) (fun _ _ _ h => h)) ((wyD_fn y).fine (by decide)) (shaped_list fnl (by decide)))) fun v K h => ?_
  rw [decide_eq_true (List.mem_map_of_mem hy)] at h
  exact h
abbrev spIsPair : Sp := mkSp (α := Thg) (fun _ _ => True) (fun t => [vD (encT t)]) (fun _ _ => vB true)
theorem fc_is_pair (g : Gk K mg CB CW CR) (ct : Fc P w K mg base 1 "is_tuple_of" spIsTupleOf) (F : FnP K "is_pair" s_is_pair f fd) (gm : mg "is_pair" = some (.ref f)) : Fc P w K mg base 2 "is_pair" spIsPair := by
  refine fc_of F gm sc_is_pair (F.bindsN fun _ _ _ _ _ _ us hl => match us, hl with | [_], _ => rfl) (fun _ => rfl) ?_
  rintro t Fr cdv A outer s E hr _
  refine js_ret (P := vB (true && !([false, false].any id))) (je_and (je_call ct (hr.mono (by decide)) ([dN t.1, dN t.2], 2) trivial (ja_cons (je_name 0) (ja1 je_int)) (fun _ _ _ h => h)) fun _ => je_one (je_not (je_any rfl g.fr (je_imp (je_new (jn_lc [("item", 1)] [t.1, t.2] (fun j => vN j) (fun _ => true) (fun _ => vB (false || !true)) rfl sc_is_pair.nd (blkOk_by (by rfl)) (ji_tupD (ds := [dN t.1, dN t.2]) (je_name 0)) (show 2 < sizeLine by decide) ?_)) fun v K h => h)))) fun _ _ h => h
  intro j hj A' O v Pc
  exact jelt1 1 sc_is_pair.nd fun s H0 C cl fp => ⟨jts_nil, fun _ => je_or (je_isiBool (i := (j : Int)) g.fr (je_name 1)) fun _ => je_one (je_not (je_isiInt (i := (j : Int)) g.fr (je_name 1)))⟩
abbrev spIsChoiceOf (P : Program) (w : World) (CB CW CR : Addr) : Sp := mkSp (α := Bk × Wb) (fun a _ => a.1.ok ∧ M.Wok a.1 a.2) (fun a => [bookV CB a.1, webV CW CR a.2, vX P w (owD a.1 a.2)]) (fun _ _ => vB true)
theorem fc_is_choice_of (g : Gk K mg CB CW CR) (cu : Fc P w K mg base 3 "usable_ways" (spUsableWays P w CB CW CR)) (cp : Fc P w K mg base 2 "is_pair" spIsPair) (cg : Fc P w K mg base 3 "is_giving" (spIsGiving CB CW CR)) (cc : Fc P w K mg base 2 "comes_back" (spComesBack P w CB)) (F : FnP K "is_choice_of" s_is_choice_of f fd) (gm : mg "is_choice_of" = some (.ref f)) : Fc P w K mg base 4 "is_choice_of" (spIsChoiceOf P w CB CW CR) := by
  refine fc_of F gm sc_is_choice_of (F.bindsN fun _ _ _ _ _ _ us hl => match us, hl with | [_, _, _], _ => rfl) (fun _ => rfl) ?_
  rintro ⟨b, W⟩ Fr cdv A outer s E hr ⟨ok, wok⟩
  replace ok : b.ok := ok
  replace wok : M.Wok b W := wok
  have small : W.length * b.kn < sizeLine := Nat.lt_of_le_of_lt (Nat.mul_le_mul wok.len ok.kn5) (by decide)
  have ul := U_len (b := b) (W := W)
  refine js_set (P := vX P w (useD b W)) 3 sc_is_choice_of.nd (je_call cu (hr.mono (by decide)) (b, W) ⟨ok, wok⟩ (ja_cons (je_name 0) (ja1 (je_name 1))) (fun _ _ _ h => h)) ?_
  have lens : (owD b W).length = (useD b W).length := by unfold owD useD wd; rw [List.length_map, List.length_map]
  refine js_skipB (jt_w (jw_or (jt_not (jt_val (je_isiDict g.fr (rdx (owD b W)) (je_name 2)))) fun _ => jw_or1 (jt_neD (d := dN (owD b W).length) (e := dN (useD b W).length) hr (je_lenX g.fr (rdx _) (je_name 2)) (je_lenX g.fr (rdx _) (je_name 3))))) (by rw [lens]; simp) ?_
  refine js_for (fun i Γ => Γ = ⟨[some (bookV CB b), some (webV CW CR W), some (vX P w (owD b W)), some (vX P w (useD b W)), none], [], []⟩) rfl rfl
    (ji_keysX (je_name 2)) rfl ?_ ?_
  · rintro i P' Γ1 hP rfl v1 Pc1
    have hP2 : ((M.U b W).map fun t => vD (encT t))[i]? = some P' := by
      rw [← hP]
      unfold owD
      rw [List.map_map]
      rfl
    rw [List.getElem?_map] at hP2
    obtain ⟨t, e1, rfl⟩ := Option.map_eq_some_iff.mp hP2
    have htU : t ∈ M.U b W := List.mem_of_getElem? e1
    have htm := M.mem_U.mp htU
    have hown := M.ownW_own htm
    have fnl : ∀ d ∈ (M.usable b W t).map wyD, Fn 1 d := fun d hd => by
      obtain ⟨n, _, rfl⟩ := List.mem_map.mp hd
      exact wyD_fn n
    refine ⟨_, _, jg_name 4 sc_is_choice_of.nd, ?_⟩
    refine js_skipB (jt_w (jw_or (jt_not (jt_val (je_call cp (hr.mono (by decide)) t trivial (ja1 (je_name 4)) (fun _ _ _ h => h)))) fun _ => jw_or (jt_notIn (r := false) hr (rdx (useD b W)) (je_name 4) (je_name 3) (by rw [show useD b W = wd _ _ from rfl, wd_some htU]; rfl) (encT_d8 t)) fun _ => jw_or1 (jt_not (jt_val (je_call cg (hr.mono (by decide)) (b, W, t, M.ownW b W t) ⟨ok, wok, htm.val.1, own_way htm⟩ (ja_cons (je_name 0) (ja_cons (je_name 1) (ja_cons (je_name 4) (ja1 (je_ixX hr (rdx (owD b W)) (je_name 2) (je_name 4) (ow_at htm) rfl (encT_d8 t)))))) (fun _ _ _ h => h)))))) rfl ?_
    refine js_skipB (jt_notInL (ds := (M.usable b W t).map wyD) (k := wyD (M.ownW b W t)) hr (by rw [List.map_map]; exact rdl _) (je_ixX hr (rdx (owD b W)) (je_name 2) (je_name 4) (ow_at htm) rfl (encT_d8 t)) (je_ixX hr (rdx (useD b W)) (je_name 3) (je_name 4) (wd_some htU) rfl (encT_d8 t)) ((wyD_fn _).fine (by decide)) (shaped_list fnl (by decide))) (by rw [decide_eq_true (List.mem_map_of_mem hown.1)]; rfl) ?_
    exact js_nil ⟨_, rfl, (by repeat' first | exact True.intro | refine ⟨fun _ _ h => h, ?_⟩), rfl, rfl⟩
  · rintro Γ' rfl
    refine js_ret (P := vB (!((M.U b W).map fun _ => false).any id)) (je_not (je_any rfl g.fr (je_imp (je_new (jn_lc [("item", 4)] (M.U b W) (fun t => vD (encT t)) (fun _ => true) (fun _ => vB false) rfl sc_is_choice_of.nd (blkOk_by (by rfl)) (ji_imp (ji_keysX (je_name 2)) (by unfold owD; rw [List.map_map]; rfl)) (Nat.lt_of_le_of_lt ul small) ?_)) fun v K h => by
      rw [List.filter_eq_self.mpr (fun _ _ => rfl)] at h
      rw [List.map_map]; exact h))) fun v K h => ?_
    · intro t ht A' O v Pc
      exact jelt1 4 sc_is_choice_of.nd fun s H0 C cl fp => ⟨jts_nil, fun _ => je_call cc (hr.mono (by decide)) (b, W, t) ⟨ok, M.mem_U.mp ht⟩ (ja_cons (je_name 0) (ja_cons (je_name 2) (ja1 (je_name 4)))) (fun _ _ _ h => h)⟩
    · rw [show ((M.U b W).map fun _ => false).any id = false by simp] at h
      exact h
abbrev spIsChoice (P : Program) (w : World) (CB CW CR : Addr) : Sp := spIsChoiceOf P w CB CW CR
theorem fc_is_choice (g : Gk K mg CB CW CR) (cw : Fc P w K mg base 3 "check_web" (spCheckWeb CB CW CR)) (cc : Fc P w K mg base 4 "is_choice_of" (spIsChoiceOf P w CB CW CR)) (F : FnP K "is_choice" s_is_choice f fd) (gm : mg "is_choice" = some (.ref f)) : Fc P w K mg base 5 "is_choice" (spIsChoiceOf P w CB CW CR) := by
  refine fc_of F gm sc_is_choice (F.bindsN fun _ _ _ _ _ _ us hl => match us, hl with | [_, _, _], _ => rfl) (fun _ => rfl) ?_
  rintro ⟨b, W⟩ Fr cdv A outer s E hr hp
  refine js_drop (P := vNone) (je_call cw (hr.mono (by decide)) (b, W) hp.2 (ja_cons (je_name 0) (ja1 (je_name 1))) (fun _ _ _ h => h)) ?_
  exact js_ret (je_call cc (hr.mono (by decide)) (b, W) hp (ja_cons (je_name 0) (ja_cons (je_name 1) (ja1 (je_name 2)))) (fun _ _ _ h => h)) fun _ _ h => h
theorem fc_check_choice (g : Gk K mg CB CW CR) (cc : Fc P w K mg base 5 "is_choice" (spIsChoiceOf P w CB CW CR)) (F : FnP K "check_choice" s_check_choice f fd) (gm : mg "check_choice" = some (.ref f)) : Fc P w K mg base 6 "check_choice" (mkSp (α := Bk × Wb) (fun a _ => a.1.ok ∧ M.Wok a.1 a.2) (fun a => [bookV CB a.1, webV CW CR a.2, vX P w (owD a.1 a.2)]) (fun _ _ => vNone)) := by
  refine fc_of F gm sc_check_choice (F.bindsN fun _ _ _ _ _ _ us hl => match us, hl with | [_, _, _], _ => rfl) (fun _ => rfl) ?_
  rintro ⟨b, W⟩ Fr cdv A outer s E hr hp
  refine js_skipB (jt_not (jt_val (je_call cc (hr.mono (by decide)) (b, W) hp (ja_cons (je_name 0) (ja_cons (je_name 1) (ja1 (je_name 2)))) (fun _ _ _ h => h)))) rfl ?_
  exact js_nil fun K => vD_none.mpr rfl
end
end Lk
end

section
set_option Elab.async false
set_option linter.all false
set_option maxRecDepth 100000
set_option maxHeartbeats 1000000
/-! Sets of things. -/
namespace Lk
open PySem PySem.Spec L2
open PyProof.Rows hiding St
open Evl (Ex)
open M (Bk Rl Mv Vl Wb Wy)
def tI (n : Thg) : List Int := [(n.1 : Int), (n.2 : Int)]
theorem tI_inj {m n : Thg} (h : tI m = tI n) : m = n := by
  injection h with h1 h2
  injection h2 with h2 _
  exact Prod.ext (Int.ofNat.inj h1) (Int.ofNat.inj h2)
theorem thg_tup {n : Thg} {v : V} {K : Hp} (h : (vD (encT n)).p v K) : ∃ a, v = .ref a ∧ K a = some (.tup ((tI n).map V.int)) := by
  obtain ⟨a, vs, e, h1, h2⟩ := im_tup.mp h
  obtain ⟨x, r, rfl, hx, h2⟩ := imAll_cons.mp h2
  obtain ⟨y, r, rfl, hy, h2⟩ := imAll_cons.mp h2
  cases imAll_nil.mp h2
  cases im_num.mp hx
  cases im_num.mp hy
  exact ⟨a, e, h1⟩
theorem tup_thg {n : Thg} {a : Addr} {K : Hp} (h : K a = some (.tup ((tI n).map V.int))) : (vD (encT n)).p (.ref a) K :=
  im_tup.mpr ⟨a, _, rfl, h, imAll_cons.mpr ⟨_, _, rfl, im_num.mpr rfl, imAll_cons.mpr ⟨_, _, rfl, im_num.mpr rfl, imAll_nil.mpr rfl⟩⟩⟩
theorem thgs_refs : ∀ {ns : List Thg} {vs : List V} {K : Hp}, AllP (ns.map fun n => vD (encT n)) vs K → ∃ ks : List (Addr × List Int), vs = ks.map (fun p => V.ref p.1) ∧ ks.map (·.2) = ns.map tI ∧ ∀ p ∈ ks, K p.1 = some (.tup (p.2.map V.int))
  | [], _, _, .nil => ⟨[], rfl, rfl, fun _ h => nomatch h⟩
  | n :: ns, _, _, .cons h t => by
    obtain ⟨a, rfl, ha⟩ := thg_tup h
    obtain ⟨ks, rfl, h1, h2⟩ := thgs_refs t
    exact ⟨(a, tI n) :: ks, rfl, by rw [List.map_cons, List.map_cons, h1], fun p hp => by
      rcases List.mem_cons.mp hp with e | hp
      · rw [e]; exact ha
      · exact h2 p hp⟩
/-- a set of things -/
def vSet (P : Program) (w : World) (ns : List Thg) : VP := ⟨fun v K => ∃ (a : Addr) (L : List (Addr × List Int)), v = .ref a ∧ K a = some (SetTO P w a L) ∧ (∀ p ∈ L, (∃ n ∈ ns, p.2 = tI n) ∧ K p.1 = some (.tup (p.2.map V.int))) ∧ ∀ n ∈ ns, tI n ∈ L.map (fun q : Addr × List Int => q.2),
  fun e ⟨a, L, h1, h2, h3, h4⟩ => ⟨a, L, h1, e _ _ h2, fun p hp => ⟨(h3 p hp).1, e _ _ (h3 p hp).2⟩, h4⟩⟩
section
variable {F : Fm} {X : Cx} {Γ : Ct} {p pos : Pos} {e : Expr} {n : Nat}
theorem je_setT {ns : List Thg} (hc : X.calm = true) (hr : Room n X.A) (hm : X.mg "set" = none) (he : JE F X Γ e (vL (ns.map fun n => vD (encT n)))) (h64 : ns.length < 64) (hg : Gl X "set" := by rfl) (hs : starEach [e] X.env = (false, eval e X.env) :: starEach [] X.env := by rfl) : JE F X Γ (.Call (.Name "set" p) [e] [] pos) (vSet X.prog X.w ns) :=
  je_callT (cr_setOfT hc (by have := u128 hr; omega)) (ja1 he hs) (fun σ H xs Q E h k => by
    cases h with
    | cons h1 h2 =>
      cases h2
      obtain ⟨q, vs, rfl, hq, hv⟩ := h1
      obtain ⟨ks, rfl, g1, g2⟩ := thgs_refs hv
      have hlen : ks.length = ns.length := by rw [← List.length_map (f := fun p : Addr × List Int => p.2) (as := ks), g1, List.length_map]
      refine ⟨q, ks, rfl, SqL.of (hid_ex _ _ _ _ hq), fun p hp => SqT.of (hid_ex _ _ _ _ (g2 p hp)), by rw [hlen]; exact h64, fun a L ha hL1 hL2 => ?_⟩
      refine k _ _ (E.ex (Ex.new ha)) ⟨a, L, rfl, vw_upd E ha, fun p hp => ⟨?_, (E.ex (Ex.new ha)).ex _ _ (g2 p (hL1 p hp))⟩, fun n hn => ?_⟩
      · have : p.2 ∈ ks.map (·.2) := List.mem_map_of_mem (hL1 p hp)
        rw [g1] at this
        obtain ⟨n, hn, e⟩ := List.mem_map.mp this
        exact ⟨n, hn, e.symm⟩
      · have : tI n ∈ ks.map (·.2) := by rw [g1]; exact List.mem_map_of_mem hn
        obtain ⟨p, hp, e⟩ := List.mem_map.mp this
        rw [← e]
        exact hL2 p hp) hm rfl hg (he := hs)
theorem jn_sortSet {ns : List Thg} (hc : X.calm = true) (hf : Free X.mg) (he : JE F X Γ e (vSet X.prog X.w ns)) (nd : ns.Nodup) (hb : ∀ n ∈ ns, n.1 < 64 ∧ n.2 < 64) (hg : Gl X "sorted" := by rfl) (hs : starEach [e] X.env = (false, eval e X.env) :: starEach [] X.env := by rfl) : JN F X Γ (.Call (.Name "sorted" p) [e] [] pos) (oL ((srt ns).map fun t => vD (encT t))) :=
  jn_callB (cr_sortedT hc) (ja1 he hs) (fun σ H xs Q E h k => by
    cases h with
    | cons h1 h2 =>
      cases h2
      obtain ⟨a, L, rfl, ha, hL, hall⟩ := h1
      refine ⟨a, L, 2, 64, rfl, hid_ex _ _ _ _ ha, fun p hp => SqT.of (hid_ex _ _ _ _ (hL p hp).2), by decide, fun p hp => ?_, fun L' q pm nd' h64 pw hq => ?_⟩
      · obtain ⟨⟨n, hn, e⟩, _⟩ := hL p hp
        have := hb n hn
        rw [e]
        refine ⟨rfl, fun m hm => ?_⟩
        rcases List.mem_cons.mp hm with z | hm
        · rw [z]; omega
        · rw [List.mem_singleton.mp hm]; omega
      · have hL' : ∀ p ∈ L', (∃ n ∈ ns, p.2 = tI n) ∧ (F.vw Γ H) p.1 = some (.tup (p.2.map V.int)) := fun p hp => hL p (pm.mem_iff.mp hp)
        have ex : ∃ us : List Thg, L'.map (·.2) = us.map tI ∧ ∀ u ∈ us, u ∈ ns := by
          clear pm nd' h64 pw
          induction L' with
          | nil => exact ⟨[], rfl, fun _ h => nomatch h⟩
          | cons p l ih =>
            obtain ⟨us, e1, e2⟩ := ih fun p hp => hL' p (List.mem_cons_of_mem _ hp)
            obtain ⟨⟨n, hn, e⟩, _⟩ := hL' p (List.mem_cons_self ..)
            exact ⟨n :: us, by rw [List.map_cons, List.map_cons, e, e1], fun u hu => by
              rcases List.mem_cons.mp hu with z | hu
              · rw [z]; exact hn
              · exact e2 u hu⟩
        obtain ⟨us, eu, hus⟩ := ex
        have pw2 : us.Pairwise M.tLt := by
          have a1 : (us.map tI).Pairwise fun x y => TS.code 64 x ≤ TS.code 64 y := by
            rw [← eu]
            exact List.pairwise_map.mpr pw
          have a2 : (us.map tI).Pairwise (· ≠ ·) := by rw [← eu]; exact nd'
          have a3 := List.pairwise_map.mp (a1.and a2)
          refine a3.imp_of_mem fun {x y} hx hy h => ?_
          have b1 := hb x (hus x hx)
          have b2 := hb y (hus y hy)
          have := pair_lt h.1 h.2 (by omega) (by omega) (by omega) (by omega)
          unfold M.tLt
          omega
        have es : srt ns = us := srt_eq (fun t => ⟨fun ht => ?_, fun ht => hus t ht⟩) nd pw2
        · rw [es] at k
          refine k q _ (E.ex (Ex.new hq)) hq ⟨_, upd_same, ?_⟩
          refine AllP.mono (view_add (O := oL (us.map fun t => vD (encT t))) hq (ex_upd hq)) ?_
          clear es pw2 hus nd' pm h64 pw k
          induction L' generalizing us with
          | nil =>
            cases us with
            | nil => exact .nil
            | cons _ _ => cases eu
          | cons p l ih =>
            cases us with
            | nil => cases eu
            | cons u us =>
              rw [List.map_cons, List.map_cons] at eu
              injection eu with e1 e2
              refine .cons (tup_thg ?_) (ih (fun p hp => hL' p (List.mem_cons_of_mem _ hp)) us e2)
              rw [← e1]
              exact (hL' p (List.mem_cons_self ..)).2
        · have h1 := hall t ht
          have h2 : tI t ∈ L'.map (·.2) := (pm.map (·.2)).mem_iff.mpr h1
          rw [eu] at h2
          obtain ⟨u, hu, e⟩ := List.mem_map.mp h2
          rw [← tI_inj e]
          exact hu) (hf _ (by decide)) boot_sorted hg (he := hs)
end
end Lk
end

section
set_option Elab.async false
set_option linter.all false
set_option maxHeartbeats 1000000
/-! What a thing's own way needs, all the way down; trees. -/
namespace Lk.M
section
variable {b : Bk} {w : Wb}
noncomputable def ndO (b : Bk) (w : Wb) (t : Th) : List Th := needs b w t (ownW b w t)
theorem ndO_mk {t n : Th} (h : Mk b w t) (hn : n ∈ ndO b w t) : Mk b w n := (mem_usable.mp (ownW_own h).1).2 n hn
theorem ndO_lt (ok : b.ok) {t n : Th} (h : Mk b w t) (hn : n ∈ ndO b w t) : opt b w n < opt b w t := opt_lt ok (ownW_own h).1 (ownW_own h).2.1 hn
noncomputable def dl (b : Bk) (w : Wb) : Nat → Th → List Th
  | 0, _ => []
  | k + 1, t => t :: (ndO b w t).flatMap (dl b w k)
theorem flatMap_eq {α β : Type} {l : List α} {f g : α → List β} (h : ∀ x ∈ l, f x = g x) : l.flatMap f = l.flatMap g := by
  induction l with
  | nil => rfl
  | cons a l ih => rw [List.flatMap_cons, List.flatMap_cons, h a (List.mem_cons_self ..), ih fun x hx => h x (List.mem_cons_of_mem _ hx)]
theorem dl_fuel (ok : b.ok) : ∀ (k : Nat) (t : Th), Mk b w t → opt b w t ≤ k → dl b w k t = dl b w (opt b w t) t := by
  intro k
  induction k using Nat.strongRecOn with
  | ind k ih =>
    intro t ht hk
    have hp := opt_pos ok ht
    obtain ⟨o, ho⟩ : ∃ o, opt b w t = o + 1 := ⟨opt b w t - 1, by omega⟩
    obtain ⟨j, rfl⟩ : ∃ j, k = j + 1 := ⟨k - 1, by omega⟩
    rw [ho]
    show t :: _ = t :: _
    congr 1
    refine flatMap_eq fun n hn => ?_
    have hm := ndO_mk ht hn
    have hl := ndO_lt ok ht hn
    by_cases e : o < j + 1
    · rw [ih j (by omega) n hm (by omega), ih o (by omega) n hm (by omega)]
    · omega
/-- the things under a thing, itself first -/
noncomputable def dn (b : Bk) (w : Wb) (t : Th) : List Th := dl b w (opt b w t) t
theorem dn_eq (ok : b.ok) {t : Th} (ht : Mk b w t) : dn b w t = t :: (ndO b w t).flatMap (dn b w) := by
  have hp := opt_pos ok ht
  obtain ⟨o, ho⟩ : ∃ o, opt b w t = o + 1 := ⟨opt b w t - 1, by omega⟩
  unfold dn
  rw [ho]
  show t :: _ = t :: _
  congr 1
  refine flatMap_eq fun n hn => ?_
  exact dl_fuel ok o n (ndO_mk ht hn) (by have := ndO_lt ok ht hn; omega)
/-- induction along the price -/
theorem opt_ind (ok : b.ok) {q : Th → Prop} (h : ∀ t, Mk b w t → (∀ n ∈ ndO b w t, q n) → q t) : ∀ t, Mk b w t → q t := by
  have : ∀ k t, Mk b w t → opt b w t ≤ k → q t := by
    intro k
    induction k with
    | zero => intro t ht hk; have := opt_pos ok ht; omega
    | succ k ih => intro t ht hk; exact h t ht fun n hn => ih n (ndO_mk ht hn) (by have := ndO_lt ok ht hn; omega)
  exact fun t ht => this _ t ht (Nat.le_refl _)
theorem dn_mk (ok : b.ok) : ∀ t, Mk b w t → ∀ x ∈ dn b w t, Mk b w x ∧ opt b w x ≤ opt b w t := by
  refine opt_ind ok fun t ht ih x hx => ?_
  rw [dn_eq ok ht] at hx
  rcases List.mem_cons.mp hx with e | hx
  · rw [e]; exact ⟨ht, Nat.le_refl _⟩
  · obtain ⟨n, hn, hx⟩ := List.mem_flatMap.mp hx
    exact ⟨(ih n hn x hx).1, Nat.le_trans (ih n hn x hx).2 (Nat.le_of_lt (ndO_lt ok ht hn))⟩
theorem sum_flatMap {f : Th → List Th} {g h : Th → Nat} : ∀ {l : List Th}, (∀ n ∈ l, ((f n).map g).sum = h n) → ((l.flatMap f).map g).sum = (l.map h).sum
  | [], _ => rfl
  | a :: l, e => by
    rw [List.flatMap_cons, List.map_append, List.sum_append, e a (List.mem_cons_self ..), sum_flatMap fun n hn => e n (List.mem_cons_of_mem _ hn)]
    rfl
/-- what the things under a thing cost -/
theorem dn_sum (ok : b.ok) : ∀ t, Mk b w t → ((dn b w t).map fun x => price b (ownW b w x)).sum = opt b w t := by
  refine opt_ind ok fun t ht ih => ?_
  rw [dn_eq ok ht, List.map_cons, List.sum_cons, sum_flatMap (h := opt b w) ih]
  exact (ownW_own ht).2.1
/-- within reach -/
inductive Rch (w : Wb) : Nat → Nat → Prop where
  | refl (v : Nat) : Rch w v v
  | step {v p x : Nat} (h : p ∈ (vl w v).parts) (r : Rch w p x) : Rch w v x
def Tree (w : Wb) : Prop := ∀ v, (vl w v).parts.Pairwise fun p q => ∀ x, Rch w p x → Rch w q x → False
theorem ndO_rch {t n : Th} (hn : n ∈ ndO b w t) {x : Nat} (h : Rch w n.1 x) : Rch w t.1 x := by
  unfold ndO at hn
  cases e : ownW b w t with
  | mv k => rw [e] at hn; rw [List.mem_singleton.mp hn] at h; exact h
  | ru k => rw [e] at hn; exact .step (List.of_mem_zip hn).1 h
theorem dn_rch (ok : b.ok) : ∀ t, Mk b w t → ∀ x ∈ dn b w t, Rch w t.1 x.1 := by
  refine opt_ind ok fun t ht ih x hx => ?_
  rw [dn_eq ok ht] at hx
  rcases List.mem_cons.mp hx with e | hx
  · rw [e]; exact .refl _
  · obtain ⟨n, hn, hx⟩ := List.mem_flatMap.mp hx
    exact ndO_rch hn (ih n hn x hx)
theorem zip_pw {α β : Type} {R : α → α → Prop} : ∀ {l : List α} {m : List β}, l.Pairwise R → (l.zip m).Pairwise fun x y => R x.1 y.1
  | [], m, _ => by rw [List.zip_nil_left]; exact .nil
  | a :: l, [], _ => by rw [List.zip_nil_right]; exact .nil
  | a :: l, c :: m, h => by
    obtain ⟨h1, h2⟩ := List.pairwise_cons.mp h
    rw [List.zip_cons_cons]
    exact .cons (fun y hy => h1 y.1 (List.of_mem_zip hy).1) (zip_pw h2)
theorem ndO_pw (tr : Tree w) (t : Th) : (ndO b w t).Pairwise fun p q => ∀ x, Rch w p.1 x → Rch w q.1 x → False := by
  unfold ndO
  cases ownW b w t with
  | mv k => exact List.pairwise_singleton _ _
  | ru k => exact zip_pw (tr t.1)
theorem ndO_nodup (tr : Tree w) (t : Th) : (ndO b w t).Nodup := (ndO_pw tr t).imp fun h e => by subst e; exact h _ (.refl _) (.refl _)
theorem dn_nodup (ok : b.ok) (tr : Tree w) : ∀ t, Mk b w t → (dn b w t).Nodup := by
  refine opt_ind ok fun t ht ih => ?_
  rw [dn_eq ok ht]
  refine List.nodup_cons.mpr ⟨fun hm => ?_, ?_⟩
  · obtain ⟨n, hn, hx⟩ := List.mem_flatMap.mp hm
    have := (dn_mk ok n (ndO_mk ht hn) t hx).2
    have := ndO_lt ok ht hn
    omega
  · refine List.pairwise_flatMap.mpr ⟨ih, (ndO_pw tr t).imp_of_mem fun {p q} hp hq h x hx y hy e => ?_⟩
    subst e
    exact h x.1 (dn_rch ok p (ndO_mk ht hp) x hx) (dn_rch ok q (ndO_mk ht hq) x hy)
theorem flatMap_len {f : Th → List Th} : ∀ {l : List Th}, (∀ n ∈ l, 1 ≤ (f n).length) → l.length ≤ (l.flatMap f).length
  | [], _ => Nat.le_refl _
  | a :: l, h => by
    rw [List.flatMap_cons, List.length_append, List.length_cons]
    have := h a (List.mem_cons_self ..)
    have := flatMap_len (l := l) fun n hn => h n (List.mem_cons_of_mem _ hn)
    omega
theorem perm_nodup_mem {α : Type} [DecidableEq α] {l m : List α} (h1 : l.Nodup) (h2 : m.Nodup) (h : ∀ x, x ∈ l ↔ x ∈ m) : l.Perm m := (List.perm_ext_iff_of_nodup h1 h2).mpr h
end
end Lk.M
end

section
set_option Elab.async false
set_option linter.all false
set_option maxRecDepth 100000
set_option maxHeartbeats 1000000
/-! What a plan needs, and its cost. -/
namespace Lk
open PySem PySem.Spec L2
open PyProof.Rows hiding St
open Evl (Ex)
open M (Bk Rl Mv Vl Wb Wy)
theorem srt_mem {ts : List Thg} {t : Thg} : t ∈ srt ts ↔ t ∈ ts := (List.mergeSort_perm ts thLe).mem_iff
theorem srt_perm (ts : List Thg) : (srt ts).Perm ts := List.mergeSort_perm ts thLe
theorem srt_pw {ts : List Thg} (nd : ts.Nodup) : (srt ts).Pairwise M.tLt := by
  have tot : ∀ a b : Thg, (thLe a b || thLe b a) = true := fun a b => by
    unfold thLe
    rw [Bool.or_eq_true, decide_eq_true_eq, decide_eq_true_eq]
    omega
  have tr : ∀ a b c : Thg, thLe a b = true → thLe b c = true → thLe a c = true := fun a b c => by
    unfold thLe
    rw [decide_eq_true_eq, decide_eq_true_eq, decide_eq_true_eq]
    omega
  have s1 : (srt ts).Pairwise fun a b => thLe a b = true := List.pairwise_mergeSort tr tot ts
  have s2 : (srt ts).Pairwise (· ≠ ·) := (srt_perm ts).nodup_iff.mpr nd
  refine (s1.and s2).imp fun {a b} h => ?_
  obtain ⟨h1, h2⟩ := h
  unfold thLe at h1
  have h1 := of_decide_eq_true h1
  unfold M.tLt
  rcases h1 with h | ⟨h3, h4⟩
  · exact .inl h
  · refine .inr ⟨h3, ?_⟩
    have : a.2 ≠ b.2 := fun e => h2 (Prod.ext h3 e)
    omega
theorem srt_same {ts us : List Thg} (nd : ts.Nodup) (p : ts.Perm us) : srt ts = srt us :=
  srt_eq (fun t => (p.mem_iff).trans srt_mem.symm) nd (srt_pw (p.nodup_iff.mp nd))
section
variable {P : Program} {w : World} {K : PySem.W.Frag} {mg : Str → Option Value} {base : Heap} {f : Addr} {fd : FuncData} {CB CW CR : Addr}
abbrev spRawNeeds (CB CW CR : Addr) : Sp := mkSp (α := Bk × Wb × Thg × Wy) (fun a _ => Nd a.1 a.2.1 a.2.2.1 a.2.2.2 ∧ (M.needs a.1 a.2.1 a.2.2.1 a.2.2.2).Nodup ∧ a.2.1.length ≤ 63) (fun a => [bookV CB a.1, webV CW CR a.2.1, vD (encT a.2.2.1), vD (wyD a.2.2.2)]) (fun a _ => vD (.tup ((srt (M.needs a.1 a.2.1 a.2.2.1 a.2.2.2)).map encT)))
theorem fc_raw_needs (g : Gk K mg CB CW CR) (cn : Fc P w K mg base 1 "needs_in_order" (spNeeds CB CW CR)) (F : FnP K "raw_needs" s_raw_needs f fd) (gm : mg "raw_needs" = some (.ref f)) : Fc P w K mg base 2 "raw_needs" (spRawNeeds CB CW CR) := by
  refine fc_of F gm sc_raw_needs (F.bindsN fun _ _ _ _ _ _ us hl => match us, hl with | [_, _, _, _], _ => rfl) (fun _ => rfl) ?_
  rintro ⟨b, W, t, y⟩ Fr cdv A outer s E hr ⟨hn, nd, h63⟩
  replace hn : Nd b W t y := hn
  replace nd : (M.needs b W t y).Nodup := nd
  replace h63 : W.length ≤ 63 := h63
  have kn5 := hn.1.kn5
  have hlt := hn.2.2.1
  refine js_ret (je_tupleD (ds := (srt (M.needs b W t y)).map encT) g.fr (je_imp (je_new (jn_sortSet rfl g.fr (je_setT rfl hr (g.fr _ (by decide)) (je_call cn (hr.mono (by decide)) (b, W, t, y) hn (ja_cons (je_name 0) (ja_cons (je_name 1) (ja_cons (je_name 2) (ja1 (je_name 3))))) (fun _ _ _ h => h)) (Nat.lt_of_le_of_lt (needs_len hn) (by decide))) nd fun n hm => ?_)) fun v K h => by rw [List.map_map]; exact h)) fun _ _ h => h
  rcases M.needs_in (ok := hn.1) hn.2.1 hlt hn.2.2.2 hm with ⟨z1, z2⟩ | ⟨z1, z2, _⟩ <;> constructor <;> omega
/-- what a web must be for a cost: a tree of few values -/
structure Tr (b : Bk) (W : Wb) (t : Thg) : Prop where
  ok : b.ok
  wok : M.Wok b W
  tree : M.Tree W
  few : W.length ≤ 63
  made : M.Mk b W t
abbrev spRawNeeded (P : Program) (w : World) (CB CW CR : Addr) : Sp := mkSp (α := Bk × Wb × Thg) (fun a _ => Tr a.1 a.2.1 a.2.2) (fun a => [bookV CB a.1, webV CW CR a.2.1, vX P w (owD a.1 a.2.1), vD (.tup [encT a.2.2])]) (fun a _ => vD (.tup ((srt (M.dn a.1 a.2.1 a.2.2)).map encT)))
def ftD (F : List Thg) : List (D × VP) := F.map fun t => (encT t, vB true)
theorem fc_raw_needed (g : Gk K mg CB CW CR) (cn : Fc P w K mg base 2 "raw_needs" (spRawNeeds CB CW CR)) (F : FnP K "raw_needed" s_raw_needed f fd) (gm : mg "raw_needed" = some (.ref f)) : Fc P w K mg base 3 "raw_needed" (spRawNeeded P w CB CW CR) := by
  refine fc_of F gm sc_raw_needed (F.bindsN fun _ _ _ _ _ _ us hl => match us, hl with | [_, _, _, _], _ => rfl) (fun _ => rfl) ?_
  rintro ⟨b, W, t⟩ Fr cdv A outer s E hr hT
  replace hT : Tr b W t := hT
  obtain ⟨ok, wok, tree, few, ht⟩ := hT
  have small : W.length * b.kn ≤ 63 * 5 := Nat.mul_le_mul few ok.kn5
  have dnd := M.dn_nodup ok tree t ht
  have dmk := M.dn_mk ok t ht
  have dlen : (M.dn b W t).length ≤ W.length * b.kn := by
    rw [← M.allT_len b W.length]
    exact M.nodup_len dnd fun x hx => M.mem_allT.mpr (dmk x hx).1.val
  refine js_new 4 sc_raw_needed.nd jn_dict fun p4 => ?_
  refine js_new 5 sc_raw_needed.nd (jn_listT g.fr (je_tD (ds := [encT t]) (je_name 3))) fun p5 => ?_
  refine js_while (fun m Γ => ∃ F L, (F ++ L.flatMap (M.dn b W)).Perm (M.dn b W t) ∧ (∀ x ∈ L, M.Mk b W x) ∧ m = (L.flatMap (M.dn b W)).length ∧ Γ = ⟨[some (bookV CB b), some (webV CW CR W), some (vX P w (owD b W)), some (vD (.tup [encT t])), some (vE (.ref p4)), some (vE (.ref p5)), none], [(p4, oX P w (ftD F)), (p5, oL (L.map fun t => vD (encT t)))], []⟩) rfl
    (m0 := ([t].flatMap (M.dn b W)).length) ⟨[], [t], by rw [List.flatMap_singleton]; exact List.Perm.refl _, fun x hx => by rw [List.mem_singleton.mp hx]; exact ht, rfl, rfl⟩ ?_
  rintro m Γ1 ⟨F, L, pm, hmk, rfl, rfl⟩
  have pnd : (F ++ L.flatMap (M.dn b W)).Nodup := pm.nodup_iff.mpr dnd
  have plen : F.length + (L.flatMap (M.dn b W)).length ≤ W.length * b.kn := by
    rw [← List.length_append, pm.length_eq]; exact dlen
  refine ⟨_, jt_gt (je_lenL g.fr (rdlO 1) (je_name 5)) je_int, fun hb => ?_, fun hb => ?_⟩
  · have hL : L ≠ [] := fun e => by rw [e] at hb; simp at hb
    obtain ⟨L', h, rfl⟩ : ∃ L' h, L = L' ++ [h] := ⟨L.dropLast, L.getLast hL, (List.dropLast_concat_getLast hL).symm⟩
    have hh := hmk h (List.mem_append_right _ (List.mem_singleton_self _))
    have e0 : (L' ++ [h]).flatMap (M.dn b W) = L'.flatMap (M.dn b W) ++ h :: (M.ndO b W h).flatMap (M.dn b W) := by
      rw [List.flatMap_append, List.flatMap_singleton, M.dn_eq ok hh]
    rw [e0] at pm pnd plen
    have hF : h ∉ F := fun z => (List.nodup_append.mp pnd).2.2 h z h (List.mem_append_right _ (List.mem_cons_self ..)) rfl
    have psrt := srt_perm (M.ndO b W h)
    have hpmk : ∀ x ∈ L' ++ srt (M.ndO b W h), M.Mk b W x := fun x hx => by
      rcases List.mem_append.mp hx with z | z
      · exact hmk x (List.mem_append_left _ z)
      · exact M.ndO_mk hh (srt_mem.mp z)
    have pflat : ((L' ++ srt (M.ndO b W h)).flatMap (M.dn b W)).Perm (L'.flatMap (M.dn b W) ++ (M.ndO b W h).flatMap (M.dn b W)) := by
      rw [List.flatMap_append]
      exact List.Perm.append_left _ (psrt.flatMap_right _)
    have l1 : L'.length ≤ (L'.flatMap (M.dn b W)).length := M.flatMap_len fun n hn => by
      rw [M.dn_eq ok (hmk n (List.mem_append_left _ hn))]
      exact Nat.succ_le_succ (Nat.zero_le _)
    have hown := M.ownW_own hh
    have hnd : Nd b W h (M.ownW b W h) := ⟨ok, wok, hh.val.1, own_way hh⟩
    have nlen : (srt (M.ndO b W h)).length ≤ 2 := by rw [psrt.length_eq]; exact needs_len hnd
    rw [List.length_append] at plen
    refine js_pop (ls := L'.map fun t => vD (encT t)) (P := vD (encT h)) 1 (je_name 5) (jg_name 6 sc_raw_needed.nd) ?_ (by rw [List.map_append]; rfl)
    refine js_ifLast (jt_notIn (r := true) hr (rdxO (ps := ftD F) 0) (je_name 6) (je_name 4) (by rw [show lk (ftD F) (encT h) = none from lk_out encT_inj' hF]; rfl) (encT_d8 h)) (fun _ => ?_) fun z => nomatch z
    refine js_put (k := encT h) (Pv := vB true) 0 hr je_bl (je_name 4) (je_name 6) (by unfold ftD; rw [List.length_map]; exact Nat.lt_of_le_of_lt (by omega : F.length ≤ 63 * 5) (by decide)) ?_ rfl rfl (encT_d8 _)
    refine js_extendT (qs := (srt (M.ndO b W h)).map fun t => vD (encT t)) 1 (je_name 5) (je_imp (je_tD (ds := (srt (M.ndO b W h)).map encT) (je_call cn (hr.mono (by decide)) (b, W, h, M.ownW b W h) ⟨hnd, M.ndO_nodup tree h, few⟩ (ja_cons (je_name 0) (ja_cons (je_name 1) (ja_cons (je_name 6) (ja1 (je_ixX hr (rdx (owD b W)) (je_name 2) (je_name 6) (ow_at hh) rfl (encT_d8 h)))))) (fun _ _ _ h => h))) fun v K h => by rw [List.map_map] at h; exact h) ?_ ?_
    · rw [List.length_map, List.length_map]
      exact Nat.le_trans (by omega : _ ≤ 63 * 5 + 2) (by decide)
    refine js_nil ⟨((L' ++ srt (M.ndO b W h)).flatMap (M.dn b W)).length, _, ?_, ⟨F ++ [h], L' ++ srt (M.ndO b W h), ?_, hpmk, rfl, rfl⟩, (by repeat' first | exact True.intro | refine ⟨fun _ _ h => h, ?_⟩), ?_, rfl⟩
    · rw [pflat.length_eq, e0, List.length_append, List.length_append, List.length_cons]
      omega
    · refine List.Perm.trans ?_ pm
      rw [List.append_assoc]
      refine List.Perm.append_left _ ?_
      refine List.Perm.trans (List.Perm.cons h pflat) ?_
      exact List.perm_middle.symm
    · show [(p4, oX P w (putP (ftD F) (encT h) (vB true))), (p5, oL _)] = [(p4, oX P w (ftD (F ++ [h]))), (p5, oL _)]
      unfold ftD
      rw [putP_new (lk_out encT_inj' hF), List.map_append, List.map_append]
      rfl
  · have hL : L = [] := by
      cases L with
      | nil => rfl
      | cons _ _ => simp at hb
    subst hL
    have pF : F.Perm (M.dn b W t) := by simpa using pm
    refine js_ret (je_tupleD (ds := (srt F).map encT) g.fr (je_imp (je_new (jn_sortX rfl hr g.fr (rdyO 0) (je_name 4) (by unfold ftD; rw [List.map_map]; rfl))) fun v K h => by rw [List.map_map]; exact h)) fun v K h => ?_
    rw [srt_same (pF.nodup_iff.mpr dnd) pF] at h
    exact h
abbrev spRawCost (P : Program) (w : World) (CB : Addr) : Sp := mkSp (α := Bk × Wb × List Thg) (fun a _ => (∀ t ∈ a.2.2, M.Mk a.1 a.2.1 t) ∧ a.2.2.length < sizeLine) (fun a => [bookV CB a.1, vX P w (owD a.1 a.2.1), vD (.tup (a.2.2.map encT))]) (fun a _ => vN ((a.2.2.map fun t => M.price a.1 (M.ownW a.1 a.2.1 t)).sum))
theorem fc_raw_cost (g : Gk K mg CB CW CR) (cp : Fc P w K mg base 1 "price_of" (spPriceOf CB)) (F : FnP K "raw_cost" s_raw_cost f fd) (gm : mg "raw_cost" = some (.ref f)) : Fc P w K mg base 2 "raw_cost" (spRawCost P w CB) := by
  refine fc_of F gm sc_raw_cost (F.bindsN fun _ _ _ _ _ _ us hl => match us, hl with | [_, _, _], _ => rfl) (fun _ => rfl) ?_
  rintro ⟨b, W, ts⟩ Fr cdv A outer s E hr ⟨h1, h2⟩
  replace h1 : ∀ t ∈ ts, M.Mk b W t := h1
  replace h2 : ts.length < sizeLine := h2
  refine js_ret (je_sum (ns := ts.map fun t => M.price b (M.ownW b W t)) rfl g.fr (je_imp (je_new (jn_lc [("thing", 3)] ts (fun t => vD (encT t)) (fun _ => true) (fun t => vN (M.price b (M.ownW b W t))) rfl sc_raw_cost.nd (blkOk_by (by rfl)) (ji_imp (ji_tupD (ds := ts.map encT) (je_name 2)) (by rw [List.map_map]; rfl)) h2 ?_)) fun v K h => by
    rw [List.filter_eq_self.mpr (fun _ _ => rfl)] at h
    rw [List.map_map]
    exact h)) fun _ _ h => h
  intro t ht A' O v Pc
  have hm := h1 t ht
  exact jelt1 3 sc_raw_cost.nd fun s H0 C cl fp => ⟨jts_nil, fun _ => je_call cp (hr.mono (by decide)) (b, M.ownW b W t) ⟨_, _, own_way hm⟩ (ja_cons (je_name 0) (ja1 (je_ixX hr (rdx (owD b W)) (je_name 1) (je_name 3) (ow_at hm) rfl (encT_d8 t)))) (fun _ _ _ h => h)⟩
abbrev spIsLotOf (P : Program) (w : World) : Sp := mkSp (α := Thg × List Thg) (fun a _ => a.1 ∈ a.2) (fun a => [vD (.tup [encT a.1]), vX P w (ftD a.2)]) (fun _ _ => vB true)
theorem fc_is_lot_of (g : Gk K mg CB CW CR) (cp : Fc P w K mg base 2 "is_pair" spIsPair) (F : FnP K "is_lot_of" s_is_lot_of f fd) (gm : mg "is_lot_of" = some (.ref f)) : Fc P w K mg base 3 "is_lot_of" (spIsLotOf P w) := by
  refine fc_of F gm sc_is_lot_of (F.bindsN fun _ _ _ _ _ _ us hl => match us, hl with | [_, _], _ => rfl) (fun _ => rfl) ?_
  rintro ⟨t, ts⟩ Fr cdv A outer s E hr hm
  replace hm : t ∈ ts := hm
  refine js_skipB (jt_w (jw_or (jt_not (jt_val (je_isiTup (ds := [encT t]) g.fr (je_name 0)))) fun _ => jw_or1 (jt_not (jt_val (je_all (bs := [true && true]) rfl g.fr (je_imp (je_new (jn_lc [("item", 2)] [t] (fun x => vD (encT x)) (fun _ => true) (fun _ => vB (true && true)) rfl sc_is_lot_of.nd (blkOk_by (by rfl)) (ji_tupD (ds := [encT t]) (je_name 0)) (show 1 < sizeLine by decide) ?_)) fun v K h => h)))))) rfl ?_
  · intro x hx A' O v Pc
    rw [List.mem_singleton] at hx
    subst hx
    exact jelt1 2 sc_is_lot_of.nd fun s H0 C cl fp => ⟨jts_nil, fun _ => je_and (je_call cp (hr.mono (by decide)) x trivial (ja1 (je_name 2)) (fun _ _ _ h => h)) fun _ => je_one (je_in (r := true) hr (rdx (ftD ts)) (je_name 2) (je_name 1) (by rw [show lk (ftD ts) (encT x) = some (vB true) from lk_at encT_inj' hm]; rfl) (encT_d8 x))⟩
  · exact js_ret (je_all (bs := []) rfl g.fr (je_imp (je_new (jn_lc [("at", 3)] ([] : List Nat) (fun k => vN (1 + k)) (fun _ => true) (fun _ => vB true) rfl sc_is_lot_of.nd (blkOk_by (by rfl)) (ji_range2 (i := 1) (j := 1) (g.fr _ (by decide)) je_int (je_lenT (ds := [encT t]) g.fr (je_name 0))) (by decide) (fun x hx => nomatch hx))) fun v K h => h)) fun _ _ h => h
abbrev spCheckWishes (CB CW CR : Addr) : Sp := mkSp (α := Bk × Wb × Thg) (fun a _ => a.1.ok ∧ M.Wok a.1 a.2.1 ∧ M.Mk a.1 a.2.1 a.2.2) (fun a => [bookV CB a.1, webV CW CR a.2.1, vD (.tup [encT a.2.2])]) (fun _ _ => vNone)
theorem fc_check_wishes (g : Gk K mg CB CW CR) (cl : Fc P w K mg base 3 "is_lot_of" (spIsLotOf P w)) (cm : Fc P w K mg base 4 "raw_makeable" (spRawMakeable CB CW CR)) (F : FnP K "check_wishes" s_check_wishes f fd) (gm : mg "check_wishes" = some (.ref f)) : Fc P w K mg base 5 "check_wishes" (spCheckWishes CB CW CR) := by
  refine fc_of F gm sc_check_wishes (F.bindsN fun _ _ _ _ _ _ us hl => match us, hl with | [_, _, _], _ => rfl) (fun _ => rfl) ?_
  rintro ⟨b, W, t⟩ Fr cdv A outer s E hr ⟨ok, wok, ht⟩
  replace ok : b.ok := ok
  replace wok : M.Wok b W := wok
  replace ht : M.Mk b W t := ht
  have small : W.length * b.kn < sizeLine := Nat.lt_of_le_of_lt (Nat.mul_le_mul wok.len ok.kn5) (by decide)
  have ul := U_len (b := b) (W := W)
  refine js_skipB (jt_not (jt_val (je_call cl (hr.mono (by decide)) (t, M.U b W) (M.mem_U.mpr ht) (ja_cons (je_name 2) (ja1 (je_imp (je_new (jn_dc [("item", 3)] (M.U b W) (fun t => vD (encT t)) (fun _ => true) encT (fun _ => vB true) hr rfl sc_check_wishes.nd (blkOk_by (by rfl))
      (ji_imp (ji_tupD (je_call cm (hr.mono (by decide)) (b, W) ⟨ok, wok⟩ (ja_cons (je_name 0) (ja1 (je_name 1))) (fun _ _ _ h => h))) (by rw [List.map_map]; rfl)) (Nat.lt_of_le_of_lt ul small) ?_ (fun t _ => ⟨rfl, encT_d8 t⟩) ?_)) fun v K h => ?_))) (fun _ _ _ h => h)))) rfl ?_
  · rw [List.filter_eq_self.mpr (fun _ _ => rfl)]
    exact List.Pairwise.map _ (fun a c h e => h (encT_inj e)) (M.U_nodup b W)
  · intro x hx A' O v Pc
    exact jent1 3 sc_check_wishes.nd fun s H0 C cl fp => ⟨jts_nil, fun _ => ⟨je_name 3, je_bl⟩⟩
  · rw [List.filter_eq_self.mpr (fun _ _ => rfl)] at h
    exact h
  · exact js_nil fun K => vD_none.mpr rfl
abbrev spCheckChoice (P : Program) (w : World) (CB CW CR : Addr) : Sp := mkSp (α := Bk × Wb) (fun a _ => a.1.ok ∧ M.Wok a.1 a.2) (fun a => [bookV CB a.1, webV CW CR a.2, vX P w (owD a.1 a.2)]) (fun _ _ => vNone)
abbrev spCost (P : Program) (w : World) (CB CW CR : Addr) : Sp := mkSp (α := Bk × Wb × Thg) (fun a _ => Tr a.1 a.2.1 a.2.2) (fun a => [bookV CB a.1, webV CW CR a.2.1, vX P w (owD a.1 a.2.1), vD (.tup [encT a.2.2])]) (fun a _ => vN (M.opt a.1 a.2.1 a.2.2))
theorem fc_cost (g : Gk K mg CB CW CR) (cc : Fc P w K mg base 6 "check_choice" (spCheckChoice P w CB CW CR)) (cw : Fc P w K mg base 5 "check_wishes" (spCheckWishes CB CW CR)) (cn : Fc P w K mg base 3 "raw_needed" (spRawNeeded P w CB CW CR)) (cr : Fc P w K mg base 2 "raw_cost" (spRawCost P w CB)) (F : FnP K "cost" s_cost f fd) (gm : mg "cost" = some (.ref f)) : Fc P w K mg base 7 "cost" (spCost P w CB CW CR) := by
  refine fc_of F gm sc_cost (F.bindsN fun _ _ _ _ _ _ us hl => match us, hl with | [_, _, _, _], _ => rfl) (fun _ => rfl) ?_
  rintro ⟨b, W, t⟩ Fr cdv A outer s E hr hT
  replace hT : Tr b W t := hT
  have dnd := M.dn_nodup hT.ok hT.tree t hT.made
  have dmk := M.dn_mk hT.ok t hT.made
  have small : W.length * b.kn ≤ 63 * 5 := Nat.mul_le_mul hT.few hT.ok.kn5
  have dlen : (M.dn b W t).length ≤ W.length * b.kn := by
    rw [← M.allT_len b W.length]
    exact M.nodup_len dnd fun x hx => M.mem_allT.mpr (dmk x hx).1.val
  refine js_drop (P := vNone) (je_call cc (hr.mono (by decide)) (b, W) ⟨hT.ok, hT.wok⟩ (ja_cons (je_name 0) (ja_cons (je_name 1) (ja1 (je_name 2)))) (fun _ _ _ h => h)) ?_
  refine js_drop (P := vNone) (je_call cw (hr.mono (by decide)) (b, W, t) ⟨hT.ok, hT.wok, hT.made⟩ (ja_cons (je_name 0) (ja_cons (je_name 1) (ja1 (je_name 3)))) (fun _ _ _ h => h)) ?_
  refine js_ret (je_call cr (hr.mono (by decide)) (b, W, srt (M.dn b W t)) ⟨fun x hx => (dmk x (srt_mem.mp hx)).1, ?_⟩ (ja_cons (je_name 0) (ja_cons (je_name 2) (ja1 (je_call cn (hr.mono (by decide)) (b, W, t) hT (ja_cons (je_name 0) (ja_cons (je_name 1) (ja_cons (je_name 2) (ja1 (je_name 3))))) (fun _ _ _ h => h))))) (fun _ _ _ h => h)) fun v K h => ?_
  · show (srt _).length < _
    rw [(srt_perm _).length_eq]
    exact Nat.lt_of_le_of_lt (by omega : _ ≤ 63 * 5) (by decide)
  · have e : ((srt (M.dn b W t)).map fun x => M.price b (M.ownW b W x)).sum = M.opt b W t := by
      rw [← M.dn_sum hT.ok t hT.made]
      exact ((srt_perm (M.dn b W t)).map _).sum_nat
    have h : (vN ((srt (M.dn b W t)).map fun x => M.price b (M.ownW b W x)).sum).p v K := h
    rw [e] at h
    exact h
end
end Lk
end

section
set_option Elab.async false
set_option linter.all false
set_option maxRecDepth 100000
set_option maxHeartbeats 1000000
/-! Dicts with numbers for keys. -/
namespace Lk
open PySem PySem.Spec L2
open PyProof.Rows hiding St
open Evl (Ex)
def vK (kvs : List (Key × V)) : VP := ⟨fun v K => ∃ a, v = .ref a ∧ K a = some (.dK kvs), fun e ⟨a, h1, h2⟩ => ⟨a, h1, e _ _ h2⟩⟩
def oK (kvs : List (Key × V)) : OP where
  p := fun a H _ => H a = some (.dK kvs)
  vp := vK kvs
  st := fun e _ h => e.trans h
  out := fun {a H K K'} _ e h => ⟨a, rfl, e.trans h⟩
  dom := fun h => by rw [h]; exact fun z => nomatch z
section
variable {F : Fm} {X : Cx} {Γ : Ct} {p pos p2 pos' : Pos} {e a b o i : Expr} {P Pv : VP} {n : Nat} {kvs : List (Key × V)} {rest : List Stmt} {D : PD}
def RdK (F : Fm) (Γ : Ct) (Pv : VP) (kvs : List (Key × V)) : Prop := ∀ (σ : L2.St) (H : Hp) (v : V), Env F Γ σ H → Pv.p v (F.vw Γ H) → ∃ a, v = .ref a ∧ H a = some (.dK kvs)
theorem rdk (kvs : List (Key × V)) : RdK F Γ (vK kvs) kvs := fun σ H v E ⟨a, h1, h2⟩ => ⟨a, h1, hid_ex _ _ _ _ h2⟩
theorem rdkO {q : Addr} (j : Nat) (h : Γ.own[j]? = some (q, oK kvs) := by rfl) : RdK F Γ (vE (.ref q)) kvs := fun σ H v E hv => ⟨q, hv, own_at E h⟩
theorem jt_inK {k : Nat} {r : Bool} (hr : Room n X.A) (rd : RdK F Γ Pv kvs) (ha : JE F X Γ a (vN k)) (hb : JE F X Γ b Pv) (hk : (valV kvs (.inl (k : Int))).isSome = r) (hm : behindInMarks .In b = false := by rfl) : JT F X Γ (.Compare a [.In] [b] pos) (· = r) :=
  jt_of (pt_cmp (pc_din (by have := u128 hr; omega) pE pE) hm) (rt_tB (k := r) fun σ H Q E q => ha σ H _ E fun y H1 s1 p1 => hb σ H1 _ (E.go s1) fun x H2 s2 p2 => by
    obtain ⟨A, rfl, hA⟩ := rd σ H2 x ((E.go s1).go s2) p2
    cases vD_num.mp p1
    exact ⟨A, _, rfl, DGet.k (k := .inl (k : Int)) hA, q _ H2 (s1.trans s2) (by rw [hk]; rfl)⟩)
theorem je_ixK {k : Nat} {v : V} (hr : Room n X.A) (rd : RdK F Γ Pv kvs) (ha : JE F X Γ a Pv) (hb : JE F X Γ b (vN k)) (hk : valV kvs (.inl (k : Int)) = some v) (hs : NoSl b := by intro _ _; rfl) : JE F X Γ (.Subscript a b pos) (vE v) :=
  je_of (pe_dget (by have := u128 hr; omega) pE pE hs) fun σ H Q E q => ha σ H _ E fun x H1 s1 p1 => hb σ H1 _ (E.go s1) fun y H2 s2 p2 => by
    obtain ⟨A, rfl, hA⟩ := rd σ H2 x ((E.go s1).go s2) (Pv.mono s2.ex p1)
    cases vD_num.mp p2
    exact ⟨A, v, rfl, hk ▸ DGet.k (k := .inl (k : Int)) hA, q _ H2 (s1.trans s2) rfl⟩
theorem js_putK {v : V} {k : Nat} {q : Addr} (j : Nat) (hr : Room n X.A) (he : JE F X Γ e (vE v)) (ho : JE F X Γ o (vE (.ref q))) (hi : JE F X Γ i (vN k)) (hl : kvs.length < sizeLine)
    (kk : JS F X { Γ with own := Γ.own.set j (q, oK (putK kvs (.inl (k : Int)) v)) } rest D) (hj : Γ.own[j]? = some (q, oK kvs) := by rfl)
    (ha : ∀ v, assign (.Subscript o i pos') X.env v = (do
      let ov ← holding [v] (eval o X.env)
      let iv ← holding [v, ov] (eval i X.env)
      standAt pos'
      holding [v, ov, iv] (setItem ov iv v)
      release [v, ov, iv] []) := by intro _; rfl)
    (hs : swapsWithSole [.Subscript o i pos'] e pos.line X.env = pure false := by rfl) (hw : swappedStores [.Subscript o i pos'] e X.env = pure none := by rfl) (h1 : (assignEach [.Subscript o i pos'] X.env).map (·.2) = [assign (.Subscript o i pos') X.env] := by rfl) :
    JS F X Γ (.Assign [.Subscript o i pos'] e pos :: rest) D :=
  js_st (ps_asg pE (pg_sub pE pE (set_dict (by have := u128 hr; omega)) ha) hs hw h1) fun σ H E g1 g2 => he σ H _ g1 fun v1 H1 s1 p1 => ho σ H1 _ (g1.go s1) fun ov H2 s2 p2 => hi σ H2 _ ((g1.go s1).go s2) fun iv H3 s3 p3 => by
    have E3 := ((g1.go s1).go s2).go s3
    cases (show ov = .ref q from p2)
    cases (show v1 = v from p1)
    cases vD_num.mp p3
    have hA := own_at E3 hj
    exact ⟨q, _, rfl, DPut.k (k := .inl (k : Int)) hA hl, kk σ _ E (E3.setOwn (O' := oK (putK kvs (.inl (k : Int)) _)) hj (fun b hb => upd_ne hb) upd_same) g2⟩
/-- {k: v} -/
theorem jn_disp1 {k : Nat} {v : V} (ha : JE F X Γ a (vN k)) (hb : JE F X Γ b (vE v)) : JN F X Γ (.Dict [some a] [b] pos) (oK [(.inl (k : Int), v)]) :=
  jn_of (pe_disp (pps_cons pE pE pps_nil) rfl rfl (fun z => nomatch z) (Nat.le_of_ble_eq_true rfl)) fun σ H Q E q A hA => by
    have s0 : Step F.T (F.S Γ.own) H (upd H A (.dK [])) := step_new E hA
    have E0 := E.go s0
    have hS := E.fresh hA
    have hr : F.T.reg A = false := by
      cases z : F.T.reg A with
      | false => rfl
      | true => rw [F.regS Γ.own A z] at hS; cases hS
    refine ha σ _ _ E0 fun x H1 s1 p1 => hb σ H1 _ (E0.go s1) fun y H2 s2 p2 => ?_
    cases vD_num.mp p1
    cases (show y = v from p2)
    have h2 : H2 A = some (.dK []) := by
      have := (s1.trans s2).ex A (.dK []) (by rw [hid_in hS]; exact upd_same)
      exact hid_ex _ _ _ _ this
    refine ⟨h2, [(.inl (k : Int), _)], rfl, by simp, q A _ ((s0.trans (s1.trans s2)).mut hA hr hS fun b hb => upd_ne hb) hA upd_same⟩
theorem eq_sorted : ∀ {xs ys : List Int}, xs.Perm ys → xs.Pairwise (· ≤ ·) → ys.Pairwise (· ≤ ·) → xs = ys
  | [], ys, p, _, _ => (List.nil_perm.mp p).symm
  | x :: xs, [], p, _, _ => absurd p.symm (fun z => nomatch List.nil_perm.mp z)
  | x :: xs, y :: ys, p, h1, h2 => by
    obtain ⟨a1, a2⟩ := List.pairwise_cons.mp h1
    obtain ⟨b1, b2⟩ := List.pairwise_cons.mp h2
    have e : x = y := by
      have hx : x ∈ y :: ys := p.mem_iff.mp (List.mem_cons_self ..)
      have hy : y ∈ x :: xs := p.mem_iff.mpr (List.mem_cons_self ..)
      rcases List.mem_cons.mp hx with z | z
      · exact z
      · rcases List.mem_cons.mp hy with w | w
        · exact w.symm
        · exact Int.le_antisymm (a1 y w) (b1 x z)
    subst e
    rw [eq_sorted (List.perm_cons x |>.mp p) a2 b2]
/-- sorted(d) -/
theorem jn_sortK {us : List Nat} (hc : X.calm = true) (hf : Free X.mg) (rd : RdK F Γ P kvs) (he : JE F X Γ e P) (hk : (kvs.map (·.1)).Perm (us.map fun u : Nat => (Sum.inl (u : Int) : Key))) (h64 : us.length < 64) (hu : us.Pairwise (· < ·)) (hg : Gl X "sorted" := by rfl) (hs : starEach [e] X.env = (false, eval e X.env) :: starEach [] X.env := by rfl) : JN F X Γ (.Call (.Name "sorted" p) [e] [] pos) (oL (us.map vN)) :=
  jn_callB (call_sortedDI hc) (ja1 he hs) (fun σ H xs Q E h q => by
    cases h with
    | cons h1 h2 =>
      cases h2
      obtain ⟨A, rfl, hA⟩ := rd σ H _ E h1
      have ex : ∃ ks : List Int, kvs.map (·.1) = ks.map Sum.inl ∧ ks.Perm (us.map fun u : Nat => (u : Int)) := by
        have : ∀ k ∈ kvs.map (·.1), ∃ i : Int, k = Sum.inl i := fun k hk' => by
          obtain ⟨u, _, e⟩ := List.mem_map.mp (hk.mem_iff.mp hk')
          exact ⟨_, e.symm⟩
        obtain ⟨ks, e⟩ : ∃ ks : List Int, kvs.map (·.1) = ks.map Sum.inl := by
          clear hk hA
          generalize kvs.map (·.1) = l at this
          induction l with
          | nil => exact ⟨[], rfl⟩
          | cons k l ih =>
            obtain ⟨ks, e⟩ := ih fun k hk => this k (List.mem_cons_of_mem _ hk)
            obtain ⟨i, rfl⟩ := this k (List.mem_cons_self ..)
            exact ⟨i :: ks, by rw [List.map_cons, e]⟩
        refine ⟨ks, e, ?_⟩
        rw [e, show (us.map fun u : Nat => (Sum.inl (u : Int) : Key)) = (us.map fun u : Nat => (u : Int)).map Sum.inl by rw [List.map_map]; rfl] at hk
        have := hk.map (fun k : Key => match k with | .inl i => i | .inr _ => (0 : Int))
        rw [List.map_map, List.map_map] at this
        have id1 : ∀ l : List Int, l.map ((fun k : Key => match k with | .inl i => i | .inr _ => (0 : Int)) ∘ Sum.inl) = l := fun l => by
          induction l with
          | nil => rfl
          | cons a l ih => rw [List.map_cons, ih]; rfl
        rw [id1, id1] at this
        exact this
      obtain ⟨ks, ek, pk⟩ := ex
      refine ⟨A, kvs, ks, rfl, .inl hA, ek, by rw [pk.length_eq, List.length_map]; exact h64, fun ys l pm pw hl => ?_⟩
      have : ys = us.map fun u : Nat => (u : Int) := eq_sorted (pm.trans pk) pw (by
        refine List.pairwise_map.mpr (hu.imp fun h => ?_)
        omega)
      subst this
      refine q l _ (E.ex (Ex.new hl)) hl ⟨_, upd_same, ?_⟩
      generalize hid _ _ = KK
      clear pm pw pk ek hu h64 hk q
      induction us with
      | nil => exact .nil
      | cons u us ih => exact .cons (vD_num.mpr rfl) ih) (hf _ (by decide)) boot_sorted hg (he := hs)
end
end Lk
end

section
set_option Elab.async false
set_option linter.all false
set_option maxRecDepth 100000
set_option maxHeartbeats 1000000
/-! A comprehension that makes a dict with numbers for keys. -/
namespace Lk
open PySem PySem.Spec L2
open PyProof.Rows hiding St
open Evl (Ex)
def kvf {α : Type _} (kf : α → Nat) (gf : α → V) (x : α) : Key × V := (Sum.inl (kf x : Int), gf x)
theorem valV_none {α : Type _} {kf : α → Nat} {gf : α → V} {l : List α} {k : Key} : valV (l.map (kvf kf gf)) k = none ↔ ¬ ∃ x ∈ l, Sum.inl (kf x : Int) = k := by
  induction l with
  | nil =>
    refine ⟨fun _ h => ?_, fun _ => rfl⟩
    obtain ⟨x, h, _⟩ := h
    cases h
  | cons a l ih =>
    rw [List.map_cons]
    by_cases e : (kvf kf gf a).1 = k
    · rw [valV_pos e]
      exact ⟨fun h => (nomatch h), fun h => absurd ⟨a, List.mem_cons_self .., e⟩ h⟩
    · rw [valV_neg e, ih]
      constructor
      · rintro h ⟨x, hx, ex⟩
        rcases List.mem_cons.mp hx with z | hx
        · rw [z] at ex; exact e ex
        · exact h ⟨x, hx, ex⟩
      · rintro h ⟨x, hx, ex⟩
        exact h ⟨x, List.mem_cons_of_mem _ hx, ex⟩
theorem valV_some {α : Type _} {kf : α → Nat} {gf : α → V} {l : List α} {x : α} (hf : ∀ x ∈ l, ∀ y ∈ l, kf x = kf y → x = y) (h : x ∈ l) : valV (l.map (kvf kf gf)) (Sum.inl (kf x : Int)) = some (gf x) := by
  induction l with
  | nil => exact nomatch h
  | cons a l ih =>
    rw [List.map_cons]
    by_cases e : (kvf kf gf a).1 = Sum.inl (kf x : Int)
    · rw [valV_pos e]
      have e : (Sum.inl (kf a : Int) : Key) = Sum.inl (kf x : Int) := e
      injection e with e
      rw [hf a (List.mem_cons_self ..) x h (by omega)] <;> rfl
    · rw [valV_neg e]
      rcases List.mem_cons.mp h with z | z
      · subst z; exact absurd rfl e
      · exact ih (fun x hx y hy => hf x (List.mem_cons_of_mem _ hx) y (List.mem_cons_of_mem _ hy)) z
section
variable {F : Fm} {X : Cx} {Γ : Ct} {tg iter kx vx : Expr} {ifs : List Expr} {scope : Scope} {pos : Pos} {α : Type} {n : Nat}
theorem rn_dcK {vs : List Nat} (xs : List α) (pf : α → VP) (bf : α → Bool) (kf : α → Nat) (gf : α → V) (hi : JI F X Γ tg iter (xs.map pf)) (hl : xs.length < sizeLine) (nd : ((xs.filter bf).map kf).Nodup)
    (hb : ∀ x ∈ xs, ∀ A O v Pc, JEnt F X scope (Γ.comp vs A O v Pc) tg ifs kx vx vs (pf x) (bf x) (.num (kf x : Int)) (vE (gf x))) :
    RN F Γ (tDc (oI X tg iter) (gAll X scope tg) (tAll X scope ifs) (eAll X scope kx) (eAll X scope vx) vs) (oK ((xs.filter bf).map (kvf kf gf))) := fun σ H Q E k => hi σ H _ E fun J v Pc H1 s1 hv wk A hA => by
  have E1 := E.go s1
  have hAH : H A = none := none_back E s1 hA
  have hAS : F.S Γ.own A = false := E.fresh hAH
  have hAr : F.T.reg A = false := by
    cases q : F.T.reg A with
    | false => rfl
    | true => rw [F.regS Γ.own A q] at hAS; cases hAS
  have ix : ∀ O : OP, (Γ.own ++ [(A, O)])[Γ.own.length]? = some (A, O) := fun O => by simp
  have st : ∀ O O' : OP, (Γ.own ++ [(A, O)]).set Γ.own.length (A, O') = Γ.own ++ [(A, O')] := fun O O' => by simp
  have wl : (xs.map pf).length = xs.length := List.length_map ..
  refine ⟨fun i m Hc => i + m = xs.length ∧ Env F (Γ.comp vs A (oK (((xs.take i).filter bf).map (kvf kf gf))) v Pc) (L2.wipe σ vs) Hc ∧ Step F.T (F.S Γ.own) H Hc, ⟨xs.length, Nat.zero_add _, ?_, s1.trans (E1.ex (Ex.new hA))⟩, fun i m Hc ⟨em, Ec, sc⟩ => ?_⟩
  · exact Env.addOwn (Γ := { imm := wipeI Γ.imm vs, own := Γ.own, fx := (v, Pc) :: Γ.fx }) ((E1.fact hv).wipe vs) hA (E1.ex (Ex.new hA)) upd_same
  have hpc : Pc.p v (hid (F.S (Γ.own ++ [(A, oK (((xs.take i).filter bf).map (kvf kf gf)))])) Hc) := Ec.fx (v, Pc) (List.mem_cons_self ..)
  have hpH : Pc.p v Hc := Pc.mono (hid_ex _ _) hpc
  cases m with
  | zero =>
    have : i = xs.length := by omega
    subst this
    rw [List.take_length] at Ec
    exact .inl ⟨wl ▸ wk.stop Hc hpH, k A Hc sc hAH (own_at Ec (ix _))⟩
  | succ m =>
    have hi' : i < xs.length := by omega
    refine .inr ⟨wk.go i Hc (by rw [wl]; exact hi') hpH, fun Hc => Env F (Γ.comp vs A (oK (((xs.take (i + 1)).filter bf).map (kvf kf gf))) v Pc) (L2.wipe σ vs) Hc ∧ Step F.T (F.S Γ.own) H Hc, fun H' h => ⟨m, Nat.lt_succ_self _, by omega, h.1, h.2⟩, fun y H' hy => ?_⟩
    have hxi : (xs.map pf)[i]? = some (pf xs[i]) := by rw [List.getElem?_map, List.getElem?_eq_getElem hi']; rfl
    obtain ⟨ex, hx⟩ := wk.yld i Hc y H' _ hpc (fun a q => Ec.hdom q) hy _ hxi
    obtain ⟨Γ2, js, hjs, how, hall⟩ := hb xs[i] (List.getElem_mem hi') A (oK (((xs.take i).filter bf).map (kvf kf gf))) v Pc
    have sE := Ec.ex ex
    have E' := Ec.go sE
    have tk : xs.take (i + 1) = xs.take i ++ [xs[i]] := by rw [List.take_add_one, List.getElem?_eq_getElem hi']; rfl
    intro s H0 C cl fp
    refine (hall s H0 C cl fp).1 (L2.wipe σ vs) H' y _ E' hx fun σ2 E2 w2 => ⟨(w2 vs hjs).trans (wipe_twice σ vs), fun s' H0' C' cl' fp' => ?_⟩
    have hS2 : F.S Γ2.own = F.S (Γ.own ++ [(A, oK (((xs.take i).filter bf).map (kvf kf gf)))]) := by rw [how]
    have sub : ∀ {Ha Hb : Hp}, Step F.T (F.S (Γ.own ++ [(A, oK (((xs.take i).filter bf).map (kvf kf gf)))])) Ha Hb → Step F.T (F.S Γ.own) Ha Hb := fun st => st.sub (fun a q => S_add.mpr (.inl q)) (F.regS _)
    refine (hall s' H0' C' cl' fp').2.1 σ2 H' _ E2 fun b H3 s3 hbb => ?_
    have hbb : b = bf xs[i] := hbb
    have s3' := s3
    rw [hS2] at s3'
    have hsc3 : Step F.T (F.S Γ.own) H H3 := sc.trans (sub (sE.trans s3'))
    cases b with
    | false =>
      rw [if_neg (fun z => nomatch z)]
      refine ⟨?_, hsc3⟩
      rw [tk, List.filter_append, List.filter_cons, ← hbb]
      simpa using E'.go s3'
    | true =>
      rw [if_pos rfl]
      intro s'' H0'' C'' cl'' fp''
      refine ((hall s'' H0'' C'' cl'' fp'').2.2 hbb.symm).1 σ2 H3 _ (E2.go s3) fun y2 H4 s4 hy2 => fun s4_ H0_ C_ cl_ fp_ => ?_
      refine ((hall s4_ H0_ C_ cl_ fp_).2.2 hbb.symm).2 σ2 H4 _ ((E2.go s3).go s4) fun z H5 s5 hz => ?_
      have s45 := s4.trans s5
      rw [hS2] at s45
      have E5 := (E'.go s3').go s45
      have d1 := own_at E5 (ix _)
      cases vD_num.mp hy2
      cases (show z = gf xs[i] from hz)
      have fl : (xs.take (i + 1)).filter bf = (xs.take i).filter bf ++ [xs[i]] := by rw [tk, List.filter_append, List.filter_cons, ← hbb]; simp
      have new : valV (((xs.take i).filter bf).map (kvf kf gf)) (Sum.inl (kf xs[i] : Int)) = none := by
        rw [valV_none]
        intro hm
        have sl : ((xs.take (i + 1)).filter bf).Sublist (xs.filter bf) := (List.take_sublist _ _).filter _
        have := (sl.map kf).nodup nd
        rw [fl, List.map_append, List.nodup_append] at this
        obtain ⟨x, hx, e⟩ := hm
        have e2 : kf x = kf xs[i] := by
          have : (Sum.inl (kf x : Int) : Key) = Sum.inl (kf xs[i] : Int) := e
          injection this with this
          omega
        exact this.2.2 (kf x) (List.mem_map_of_mem hx) (kf xs[i]) (by simp) e2
      have kl : (((xs.take i).filter bf).map (kvf kf gf)).length < sizeLine := by
        rw [List.length_map]
        refine Nat.lt_of_le_of_lt (List.length_filter_le _ _) ?_
        rw [List.length_take]
        omega
      refine ⟨_, .inl (kf xs[i] : Int), rfl, d1, kl, ⟨?_, (hsc3.trans (sub s45)).mut hAH hAr hAS fun b hb => upd_ne hb⟩⟩
      have := E5.setOwn (H' := upd H5 A (.dK (putK (((xs.take i).filter bf).map (kvf kf gf)) (Sum.inl (kf xs[i] : Int)) (gf xs[i])))) (O' := oK (putK (((xs.take i).filter bf).map (kvf kf gf)) (Sum.inl (kf xs[i] : Int)) (gf xs[i]))) (ix _) (fun b hb => upd_ne hb) upd_same
      rw [putK_new _ new] at this
      rw [putK_new _ new]
      have e1 : (((xs.take (i + 1)).filter bf).map (kvf kf gf)) = (((xs.take i).filter bf).map (kvf kf gf)) ++ [(Sum.inl (kf xs[i] : Int), gf xs[i])] := by rw [fl, List.map_append]; rfl
      rw [e1]
      rw [show ((Γ.comp vs A (oK (((xs.take i).filter bf).map (kvf kf gf))) v Pc).own.set Γ.own.length (A, oK ((((xs.take i).filter bf).map (kvf kf gf)) ++ [(Sum.inl (kf xs[i] : Int), gf xs[i])]))) = Γ.own ++ [(A, oK ((((xs.take i).filter bf).map (kvf kf gf)) ++ [(Sum.inl (kf xs[i] : Int), gf xs[i])]))] from st _ _] at this
      exact this
theorem jn_dcK (own : List (Str × Nat)) (xs : List α) (pf : α → VP) (bf : α → Bool) (kf : α → Nat) (gf : α → V) (hr : Room n X.A) (hc : X.calm = true) (hN : X.N.Nodup) (ok : BlkOk X.N X.env.scope scope own) (hi : JI F X Γ tg iter (xs.map pf)) (hl : xs.length < sizeLine) (nd : ((xs.filter bf).map kf).Nodup)
    (hb : ∀ x ∈ xs, ∀ A O v Pc, JEnt F X scope (Γ.comp (own.map (·.2)) A O v Pc) tg ifs kx vx (own.map (·.2)) (pf x) (bf x) (.num (kf x : Int)) (vE (gf x))) (hs : ∀ x, foldedSetIterable iter X.env x = pure x := by intro _; rfl) :
    JN F X Γ (.DictComp kx vx [⟨tg, iter, ifs, 0⟩] scope pos) (oK ((xs.filter bf).map (kvf kf gf))) :=
  jn_of (pe_dc hc hN pI ok (g := gAll X scope tg) (tt := tAll X scope ifs) (tk := eAll X scope kx) (tv := eAll X scope vx) (fun s H C cl fp => ⟨fun pins s' σ H' v u Q I r h => h s H C cl fp pins s' u I r⟩) (fun s H C cl fp => ⟨fun pins s' σ H' Q I h => h s H C cl fp pins s' I⟩) (fun s H C cl fp => ⟨fun pins s' σ H' Q I h => h s H C cl fp pins s' I⟩) (fun s H C cl fp => ⟨fun pins s' σ H' Q I h => h s H C cl fp pins s' I⟩) hs) (rn_dcK xs pf bf kf gf hi hl nd hb)
end
end Lk
end

section
set_option Elab.async false
set_option linter.all false
set_option maxRecDepth 100000
set_option maxHeartbeats 1000000
/-! enumerate of a list. -/
namespace Lk
open PySem PySem.Spec L2
open PyProof.Rows hiding St
open Evl (Ex)
section
variable {F : Fm} {X : Cx} {Γ : Ct} {tg e : Expr} {Ps : List VP} {p pos tpos : Pos} {elts : List Expr} {kk : Nat}
theorem ji_enL (hf : Free X.mg) (he : JE F X Γ e (vL Ps)) (hg : Gl X "enumerate" := by rfl) (hs : starEach [e] X.env = [(false, eval e X.env)] := by rfl) :
    JI F X Γ (.Tuple elts kk tpos) (.Call (.Name "enumerate" p) [e] [] pos) ((List.range Ps.length).map fun i => vT [vN i, Ps.getD i vNone]) := fun σ H R E k => oI_of (pi_enum hg (hf _ (by decide)) pA hs) (ja1 he (hs.trans rfl) σ H _ E fun ws H1 s h => by
  cases h with
  | cons h1 h2 =>
    cases h2
    obtain ⟨a, vs, rfl, h2, h3⟩ := h1
    have hl : ((List.range Ps.length).map fun i => vT [vN i, Ps.getD i vNone]).length = Ps.length := by rw [List.length_map, List.length_range]
    refine ⟨a, vs, rfl, SqL.of (hid_ex _ _ _ _ h2), k _ (.ref a) ⟨fun _ K => K a = some (.lst vs) ∧ AllP Ps vs K, fun e h => ⟨e a _ h.1, h.2.mono e⟩⟩ H1 s ⟨h2, h3⟩ ⟨fun i H hi h => ?_, fun H h => ⟨vs, SqL.of h.1, by rw [hl, h.2.length]; exact Nat.le_refl _⟩, fun i H x H' S h hS hy P hP => ?_⟩⟩
    · rw [hl] at hi
      obtain ⟨x, hx, _⟩ := h.2.get (List.getElem?_eq_getElem hi)
      exact ⟨vs, x, SqL.of h.1, hx⟩
    · obtain ⟨T, y, rfl, hT, rfl, hx⟩ := hy
      rw [List.getElem?_map] at hP
      obtain ⟨j, e1, rfl⟩ := Option.map_eq_some_iff.mp hP
      obtain ⟨e2, e3⟩ := List.getElem?_eq_some_iff.mp e1
      rw [List.getElem_range] at e3
      subst e3
      rw [List.length_range] at e2
      obtain ⟨z, hz, pz⟩ := h.2.get (List.getElem?_eq_getElem e2)
      have := hx vs (SqL.of (hid_ex _ _ _ _ h.1))
      rw [hz] at this
      cases this
      have hST : S T = false := by
        cases q : S T with
        | false => rfl
        | true => exact absurd hT (hS T q)
      refine ⟨Ex.new hT, T, _, rfl, (hid_in hST).trans upd_same, .cons (vD_num.mpr rfl) (.cons ?_ .nil)⟩
      rw [getD_get (List.getElem?_eq_getElem e2)]
      exact VP.mono _ (ex_upd hT) pz)
end
section
variable {F : Fm} {X : Cx} {Γ : Ct} {scope : Scope} {ifs : List Expr} {kx vx elt : Expr} {vs : List Nat} {P P1 P2 R : VP} {b : Bool} {p p1 p2 : Pos}
variable {kd : D}
theorem jent2 (n1 n2 : Nat) {x1 x2 : Str} {k : Nat} (hc : X.calm = true) (hN : X.N.Nodup) (h : ∀ (s : Shared) (H0 : Hp) (C : Addr) (cl : List (Str × Addr)) (fp : List Addr), JTs F (cmpX X scope s H0 C cl fp) ((Γ.put n1 P1).put n2 P2) ifs (· = b) ∧ (b = true → JE F (cmpX X scope s H0 C cl fp) ((Γ.put n1 P1).put n2 P2) kx (vD kd) ∧ JE F (cmpX X scope s H0 C cl fp) ((Γ.put n1 P1).put n2 P2) vx R))
    (hj1 : n1 ∈ vs := by decide) (hj2 : n2 ∈ vs := by decide) (hi1 : X.N[n1]? = some x1 := by rfl) (hi2 : X.N[n2]? = some x2 := by rfl)
    (hx1 : ∀ (s : Shared) (H0 : Hp) (C : Addr) (cl : List (Str × Addr)) (fp : List Addr), Loc (cmpX X scope s H0 C cl fp).env.scope x1 := by intros; first | exact .inl rfl | exact .inr rfl)
    (hf1 : ∀ (s : Shared) (H0 : Hp) (C : Addr) (cl : List (Str × Addr)) (fp : List Addr), (cmpX X scope s H0 C cl fp).fn x1 = true ∨ (cmpX X scope s H0 C cl fp).env.scope.names.lookup x1 = some .local := by intros; first | exact .inl rfl | exact .inr rfl)
    (hx2 : ∀ (s : Shared) (H0 : Hp) (C : Addr) (cl : List (Str × Addr)) (fp : List Addr), Loc (cmpX X scope s H0 C cl fp).env.scope x2 := by intros; first | exact .inl rfl | exact .inr rfl)
    (hf2 : ∀ (s : Shared) (H0 : Hp) (C : Addr) (cl : List (Str × Addr)) (fp : List Addr), (cmpX X scope s H0 C cl fp).fn x2 = true ∨ (cmpX X scope s H0 C cl fp).env.scope.names.lookup x2 = some .local := by intros; first | exact .inl rfl | exact .inr rfl)
    (ha1 : ∀ (s : Shared) (H0 : Hp) (C : Addr) (cl : List (Str × Addr)) (fp : List Addr), (assignEach [.Name x1 p1, .Name x2 p2] (cmpX X scope s H0 C cl fp).env).map (·.2) = [assign (.Name x1 p1) (cmpX X scope s H0 C cl fp).env, assign (.Name x2 p2) (cmpX X scope s H0 C cl fp).env] := by intros; rfl)
    (ha2 : ∀ (s : Shared) (H0 : Hp) (C : Addr) (cl : List (Str × Addr)) (fp : List Addr), (assignEach [.Name x2 p2] (cmpX X scope s H0 C cl fp).env).map (·.2) = [assign (.Name x2 p2) (cmpX X scope s H0 C cl fp).env] := by intros; rfl)
    (ha3 : ∀ (s : Shared) (H0 : Hp) (C : Addr) (cl : List (Str × Addr)) (fp : List Addr), (assignEach [.Name x1 p1, .Name x2 p2] (cmpX X scope s H0 C cl fp).env).findIdx? (·.1) = none := by intros; rfl)
    (ha4 : ∀ (s : Shared) (H0 : Hp) (C : Addr) (cl : List (Str × Addr)) (fp : List Addr), (assignEach [.Name x1 p1, .Name x2 p2] (cmpX X scope s H0 C cl fp).env).length = 2 := by intros; rfl) :
    JEnt F X scope Γ (.Tuple [.Name x1 p1, .Name x2 p2] k p) ifs kx vx vs (vT [P1, P2]) b kd R :=
  ⟨(Γ.put n1 P1).put n2 P2, [n1, n2], fun i h => by
    rcases List.mem_cons.mp h with h | h
    · rw [h]; exact hj1
    · rw [List.mem_singleton.mp h]; exact hj2, rfl, fun s H0 C cl fp => ⟨jg_tup (X := cmpX X scope s H0 C cl fp) hc (jgs_cons (X := cmpX X scope s H0 C cl fp) (jg_name (X := cmpX X scope s H0 C cl fp) n1 hN hi1 (hx1 s H0 C cl fp) (hf1 s H0 C cl fp)) (jgs_cons (X := cmpX X scope s H0 C cl fp) (jg_name (X := cmpX X scope s H0 C cl fp) n2 hN hi2 (hx2 s H0 C cl fp) (hf2 s H0 C cl fp)) jgs_nil rfl ((ha2 s H0 C cl fp).trans rfl)) rfl ((ha1 s H0 C cl fp).trans (by rw [ha2 s H0 C cl fp]))) (ha4 s H0 C cl fp) (ha3 s H0 C cl fp), h s H0 C cl fp⟩⟩
end
end Lk
end

section
set_option Elab.async false
set_option linter.all false
set_option maxHeartbeats 1000000
/-! The part of a web below a value. -/
namespace Lk.M
section
variable {b : Bk} {w : Wb}
theorem Rch.trans {v x y : Nat} (h : Rch w v x) : Rch w x y → Rch w v y := by
  induction h with
  | refl v => exact id
  | step hp _ ih => exact fun q => .step hp (ih q)
theorem rch_le (wok : Wok b w) {v x : Nat} (h : Rch w v x) : v < w.length → x ≤ v := by
  induction h with
  | refl v => exact fun _ => Nat.le_refl _
  | step hp _ ih =>
    intro hv
    have := (wok.at_ _ hv).2.2 _ hp
    have := ih (by omega)
    omega
open Classical in
noncomputable def bel (w : Wb) (v : Nat) : List Nat := (List.range (v + 1)).filter fun x => decide (Rch w v x)
theorem mem_bel (wok : Wok b w) {v x : Nat} (hv : v < w.length) : x ∈ bel w v ↔ Rch w v x := by
  classical
  unfold bel
  rw [List.mem_filter, List.mem_range, decide_eq_true_eq]
  exact ⟨fun h => h.2, fun h => ⟨by have := rch_le wok h hv; omega, h⟩⟩
theorem bel_sorted (w : Wb) (v : Nat) : (bel w v).Pairwise (· < ·) := List.pairwise_lt_range.filter _
theorem bel_nodup (w : Wb) (v : Nat) : (bel w v).Nodup := (bel_sorted w v).imp fun h => Nat.ne_of_lt h
theorem bel_len (w : Wb) (v : Nat) : (bel w v).length ≤ v + 1 := by
  classical
  unfold bel
  have := List.length_filter_le (fun x => decide (Rch w v x)) (List.range (v + 1))
  rw [List.length_range] at this
  exact this
noncomputable def partW (w : Wb) (v : Nat) : Wb := (bel w v).map fun n => ⟨(vl w n).op, (vl w n).parts.map fun p => (bel w v).idxOf p⟩
theorem partW_len (w : Wb) (v : Nat) : (partW w v).length = (bel w v).length := List.length_map ..
theorem vl_map {l : List Nat} {f : Nat → Vl} {i : Nat} (h : i < l.length) : vl (l.map f) i = f l[i] := by
  unfold vl
  rw [List.getD_eq_getElem?_getD, List.getElem?_map, List.getElem?_eq_getElem h]
  rfl
theorem idx_lt {l : List Nat} {x : Nat} (h : x ∈ l) : l.idxOf x < l.length := List.idxOf_lt_length_of_mem h
theorem idx_at {l : List Nat} {x : Nat} (h : x ∈ l) : l[l.idxOf x]'(idx_lt h) = x := List.getElem_idxOf (idx_lt h)
theorem idx_of {l : List Nat} (nd : l.Nodup) {i : Nat} (h : i < l.length) : l.idxOf l[i] = i := nd.idxOf_getElem i h
theorem part_at {v x : Nat} (h : x ∈ bel w v) : vl (partW w v) ((bel w v).idxOf x) = ⟨(vl w x).op, (vl w x).parts.map fun p => (bel w v).idxOf p⟩ := by
  unfold partW
  rw [vl_map (idx_lt h), idx_at h]
theorem part_hom (wok : Wok b w) {v : Nat} (hv : v < w.length) : Hom b w (partW w v) (Rch w v) fun x => (bel w v).idxOf x where
  dom := fun x hx => ⟨by have := rch_le wok hx hv; omega, by rw [partW_len]; exact idx_lt ((mem_bel wok hv).mpr hx)⟩
  op := fun x hx => by rw [part_at ((mem_bel wok hv).mpr hx)]
  parts := fun x hx => by rw [part_at ((mem_bel wok hv).mpr hx)]
  cl := fun x hx p hp => hx.trans (.step hp (.refl _))
theorem sorted_idx {l : List Nat} (hs : l.Pairwise (· < ·)) {x y : Nat} (hx : x ∈ l) (hy : y ∈ l) (h : x < y) : l.idxOf x < l.idxOf y := by
  rcases Nat.lt_trichotomy (l.idxOf x) (l.idxOf y) with z | z | z
  · exact z
  · have h1 := idx_at hx
    have h2 := idx_at hy
    have : x = y := by rw [← h1, ← h2]; congr 1
    omega
  · have := List.pairwise_iff_getElem.mp hs _ _ (idx_lt hy) (idx_lt hx) z
    rw [idx_at hx, idx_at hy] at this
    omega
theorem part_ok (wok : Wok b w) {v : Nat} (hv : v < w.length) : Wok b (partW w v) where
  len := by
    rw [partW_len]
    have := bel_len w v
    have := wok.len
    omega
  at_ := fun i hi => by
    rw [partW_len] at hi
    have hx : (bel w v)[i] ∈ bel w v := List.getElem_mem hi
    have hr := (mem_bel wok hv).mp hx
    have hle := rch_le wok hr hv
    obtain ⟨h1, h2, h3⟩ := wok.at_ (bel w v)[i] (by omega)
    have e := part_at hx
    rw [idx_of (bel_nodup w v) hi] at e
    rw [e]
    refine ⟨h1, by rw [List.length_map]; exact h2, fun p hp => ?_⟩
    obtain ⟨q, hq, rfl⟩ := List.mem_map.mp hp
    have hqb : q ∈ bel w v := (mem_bel wok hv).mpr (hr.trans (.step hq (.refl _)))
    have := sorted_idx (bel_sorted w v) hqb hx (h3 q hq)
    rw [idx_of (bel_nodup w v) hi] at this
    exact this
end
end Lk.M
end

section
set_option Elab.async false
set_option linter.all false
set_option maxRecDepth 100000
set_option maxHeartbeats 1000000
/-! Parts of webs. -/
namespace Lk
open PySem PySem.Spec L2
open PyProof.Rows hiding St
open Evl (Ex)
open M (Bk Rl Mv Vl Wb Wy)
theorem je_neg1 {F : Fm} {X : Cx} {Γ : Ct} {pos p : Pos} {j : Nat} : JE F X Γ (.UnaryOp .USub (.Constant (.int 1) j p) pos) (vZ (-1)) :=
  je_of (pe_un un_neg pE) fun σ H Q E q => (je_int (F := F) (X := X) (Γ := Γ)) σ H _ E fun v H1 s p => by
    cases vD_num.mp p
    exact ⟨1, rfl, q _ H1 s (vD_num.mpr rfl)⟩
/-! keys that are all true -/
abbrev tk (S : List Nat) : List (Key × V) := S.map (kvf (fun n : Nat => n) fun _ => V.bl true)
def addN (S : List Nat) (p : Nat) : List Nat := if p ∈ S then S else S ++ [p]
theorem mem_addN {S : List Nat} {p x : Nat} : x ∈ addN S p ↔ x = p ∨ x ∈ S := by
  unfold addN
  split
  · rename_i h
    exact ⟨.inr, fun z => z.elim (fun e => by rw [e]; exact h) id⟩
  · rw [List.mem_append, List.mem_singleton]; exact Or.comm
theorem addN_nodup {S : List Nat} {p : Nat} (h : S.Nodup) : (addN S p).Nodup := by
  unfold addN
  split
  · exact h
  · rename_i n
    rw [List.nodup_append]
    exact ⟨h, by simp, fun a ha b hb e => n (by rw [← List.mem_singleton.mp hb, ← e]; exact ha)⟩
theorem tk_in {S : List Nat} {n : Nat} : (valV (tk S) (.inl (n : Int))).isSome = decide (n ∈ S) := by
  by_cases h : n ∈ S
  · rw [show valV (tk S) (.inl (n : Int)) = some (V.bl true) from valV_some (kf := fun n : Nat => n) (gf := fun _ => V.bl true) (fun _ _ _ _ e => e) h, decide_eq_true h]; rfl
  · rw [valV_none.mpr (fun ⟨x, hx, e⟩ => h (by injection e with e; rw [← Int.ofNat.inj e]; exact hx)), decide_eq_false h]; rfl
theorem tk_put {S : List Nat} {p : Nat} : putK (tk S) (.inl (p : Int)) (.bl true) = tk (addN S p) := by
  by_cases h : p ∈ S
  · unfold putK addN
    rw [valV_any, tk_in, decide_eq_true h, if_pos rfl, if_pos h, List.map_map]
    apply List.map_congr_left
    intro x _
    show (if (Sum.inl (x : Int) : Key) = Sum.inl (p : Int) then (Sum.inl (x : Int), V.bl true) else (Sum.inl (x : Int), V.bl true)) = _
    split <;> rfl
  · unfold addN
    rw [if_neg h, putK_new]
    · unfold tk; rw [List.map_append]; rfl
    · exact valV_none.mpr (fun ⟨x, hx, e⟩ => h (by injection e with e; rw [← Int.ofNat.inj e]; exact hx))
section
variable {P : Program} {w : World} {K : PySem.W.Frag} {mg : Str → Option Value} {base : Heap} {f : Addr} {fd : FuncData} {CB CW CR : Addr}
/-- a web whose parts stand below, few values -/
structure Fw (b : Bk) (W : Wb) (v : Nat) : Prop where
  ok : b.ok
  wok : M.Wok b W
  few : W.length ≤ 63
  lt : v < W.length
abbrev spRawBelow (CW CR : Addr) : Sp := mkSp (α := Bk × Wb × Nat) (fun a _ => Fw a.1 a.2.1 a.2.2) (fun a => [webV CW CR a.2.1, vN a.2.2]) (fun a _ => vL ((M.bel a.2.1 a.2.2).map vN))
theorem fc_raw_below (g : Gk K mg CB CW CR) (F : FnP K "raw_below" s_raw_below f fd) (gm : mg "raw_below" = some (.ref f)) : Fc P w K mg base 1 "raw_below" (spRawBelow CW CR) := by
  refine fc_of F gm sc_raw_below (F.bindsN fun _ _ _ _ _ _ us hl => match us, hl with | [_, _], _ => rfl) (fun _ => rfl) ?_
  rintro ⟨b, W, v⟩ Fr cdv A outer s E hr hf
  replace hf : Fw b W v := hf
  obtain ⟨ok, wok, few, hv⟩ := hf
  refine js_new 2 sc_raw_below.nd (jn_disp1 (je_name 1) je_bl) fun p => ?_
  refine js_for (fun i Γ => ∃ S : List Nat, S.Nodup ∧ v ∈ S ∧ (∀ x ∈ S, M.Rch W v x) ∧ (∀ x ∈ S, v < x + i → ∀ q ∈ (M.vl W x).parts, q ∈ S) ∧ Γ = ⟨[some (webV CW CR W), some (vN v), some (vE (.ref p)), none, none], [(p, oK (tk S))], []⟩) rfl rfl
    (ji_down (n := v) g.fr (je_name 1) je_neg1 je_neg1) ⟨[v], by simp, List.mem_singleton_self _, fun x hx => by rw [List.mem_singleton.mp hx]; exact .refl _, fun x hx h => by rw [List.mem_singleton.mp hx] at h; omega, rfl⟩ ?_ ?_
  · rintro i P' Γ1 hP ⟨S, nd, hvS, hR, hcl, rfl⟩ vv Pc
    rw [List.getElem?_map] at hP
    obtain ⟨j, e1, rfl⟩ := Option.map_eq_some_iff.mp hP
    obtain ⟨e2, e3⟩ := List.getElem?_eq_some_iff.mp e1
    rw [List.getElem_range] at e3
    subst e3
    rw [List.length_range] at e2
    replace e2 : i < v + 1 := e2
    have lenS : S.length ≤ v + 1 := by
      have := M.nodup_len (l := S) (m := List.range (v + 1)) nd fun x hx => List.mem_range.mpr (by have := M.rch_le wok (hR x hx) hv; omega)
      rwa [List.length_range] at this
    refine ⟨_, _, jg_name 3 sc_raw_below.nd, ?_⟩
    refine js_ifLast (jt_inK (k := v - i) hr (rdkO 0) (je_name 3) (je_name 2) tk_in) (fun hb => ?_) fun hb => ?_
    · have hn : v - i ∈ S := of_decide_eq_true hb.symm
      have hnl : v - i < W.length := by omega
      have hpl := (wok.at_ _ hnl).2.2
      have hD : (W.map vlD)[v - i]? = some (vlD (M.vl W (v - i))) := by rw [List.getElem?_map, vl_at hnl]; rfl
      refine js_for (fun j Γ => ∃ S' : List Nat, S'.Nodup ∧ (∀ x, x ∈ S' ↔ x ∈ S ∨ x ∈ ((M.vl W (v - i)).parts.take j)) ∧ Γ = ⟨[some (webV CW CR W), some (vN v), some (vE (.ref p)), some (vN (v - i)), none], [(p, oK (tk S'))], [(vv, Pc)]⟩) rfl rfl
        (ji_tupD (ds := (M.vl W (v - i)).parts.map dN) (je_ixT (d := dTN (M.vl W (v - i)).parts) (je_ixT (d := vlD (M.vl W (v - i))) (je_rows g (je_name 0)) (je_name 3) (at_nat hD)) je_int rfl)) ⟨S, nd, fun x => by simp, rfl⟩ ?_ ?_
      · rintro j P' Γ1 hP ⟨S', nd', hS', rfl⟩ v2 Pc2
        rw [List.map_map, List.getElem?_map] at hP
        obtain ⟨q, e5, rfl⟩ := Option.map_eq_some_iff.mp hP
        have hq : q ∈ (M.vl W (v - i)).parts := List.mem_of_getElem? e5
        have lenS' : S'.length ≤ v + 1 := by
          have := M.nodup_len (l := S') (m := List.range (v + 1)) nd' fun x hx => List.mem_range.mpr (by
            rcases (hS' x).mp hx with z | z
            · have := M.rch_le wok (hR x z) hv; omega
            · have := hpl x (List.mem_of_mem_take z); omega)
          rwa [List.length_range] at this
        refine ⟨_, _, jg_name 4 sc_raw_below.nd, ?_⟩
        refine js_putK (kvs := tk S') (k := q) (v := V.bl true) 0 hr je_bl (je_name 2) (je_name 4) (by rw [List.length_map]; exact Nat.lt_of_le_of_lt (by omega : S'.length ≤ 63) (by decide)) ?_
        refine js_nil ⟨_, ⟨addN S' q, addN_nodup nd', fun x => ?_, rfl⟩, (by repeat' first | exact True.intro | refine ⟨fun _ _ h => h, ?_⟩), ?_, rfl⟩
        · rw [mem_addN, hS', List.take_succ, e5, List.mem_append]
          simp
          constructor
          · rintro (z | z | z)
            · exact .inr (.inr z)
            · exact .inl z
            · exact .inr (.inl z)
          · rintro (z | z | z)
            · exact .inr (.inl z)
            · exact .inr (.inr z)
            · exact .inl z
        · show [(p, oK (putK (tk S') (.inl (q : Int)) (.bl true)))] = _
          rw [tk_put]
      · rintro Γ' ⟨S', nd', hS', rfl⟩
        rw [List.length_map, List.length_map, List.take_length] at hS'
        refine js_nil ⟨_, ⟨S', nd', (hS' v).mpr (.inl hvS), fun x hx => ?_, fun x hx hl q hq => (hS' q).mpr ?_, rfl⟩, (by repeat' first | exact True.intro | refine ⟨fun _ _ h => h, ?_⟩), rfl, rfl⟩
        · rcases (hS' x).mp hx with z | z
          · exact hR x z
          · exact (hR _ hn).trans (.step z (.refl _))
        · by_cases e : x = v - i
          · exact .inr (by rw [← e]; exact hq)
          · rcases (hS' x).mp hx with z | z
            · exact .inl (hcl x z (by omega) q hq)
            · have := hpl x z; omega
    · have hn : v - i ∉ S := of_decide_eq_false hb.symm
      refine js_nil ⟨_, ⟨S, nd, hvS, hR, fun x hx hl q hq => ?_, rfl⟩, (by repeat' first | exact True.intro | refine ⟨fun _ _ h => h, ?_⟩), rfl, rfl⟩
      have : x ≠ v - i := fun e => hn (by rw [← e]; exact hx)
      exact hcl x hx (by omega) q hq
  · rintro Γ' ⟨S, nd, hvS, hR, hcl, rfl⟩
    rw [List.length_map, List.length_range] at hcl
    replace hcl : ∀ x ∈ S, v < x + (v + 1) → ∀ q ∈ (M.vl W x).parts, q ∈ S := hcl
    have hall : ∀ x, M.Rch W v x → x ∈ S := by
      have : ∀ u x, M.Rch W u x → u ∈ S → x ∈ S := by
        intro u x h
        induction h with
        | refl => exact id
        | step hp _ ih => exact fun hu => ih (hcl _ hu (by omega) _ hp)
      exact fun x h => this v x h hvS
    have pS : S.Perm (M.bel W v) := M.perm_nodup_mem nd (M.bel_nodup W v) fun x => by
      rw [M.mem_bel wok hv]
      exact ⟨hR x, hall x⟩
    refine js_ret (je_new (jn_sortK rfl g.fr (rdkO 0) (je_name 2) ?_ (Nat.lt_of_le_of_lt (M.bel_len W v) (by omega)) (M.bel_sorted W v))) fun _ _ h => h
    rw [List.map_map]
    exact pS.map _
abbrev spBelow (CW CR : Addr) : Sp := mkSp (α := Bk × Wb × Nat) (fun a _ => Fw a.1 a.2.1 a.2.2) (fun a => [webV CW CR a.2.1, vN a.2.2]) (fun a _ => vD (dTN (M.bel a.2.1 a.2.2)))
theorem fc_below (g : Gk K mg CB CW CR) (cv : Fc P w K mg base 3 "check_value" (spCheckValue CW CR)) (cr : Fc P w K mg base 1 "raw_below" (spRawBelow CW CR)) (F : FnP K "below" s_below f fd) (gm : mg "below" = some (.ref f)) : Fc P w K mg base 4 "below" (spBelow CW CR) := by
  refine fc_of F gm sc_below (F.bindsN fun _ _ _ _ _ _ us hl => match us, hl with | [_, _], _ => rfl) (fun _ => rfl) ?_
  rintro ⟨b, W, v⟩ Fr cdv A outer s E hr hf
  replace hf : Fw b W v := hf
  refine js_drop (P := vNone) (je_call cv (hr.mono (by decide)) (W, v) hf.lt (ja_cons (je_name 0) (ja1 (je_name 1))) (fun _ _ _ h => h)) ?_
  exact js_ret (je_tupleD (ds := (M.bel W v).map dN) g.fr (je_call cr (hr.mono (by decide)) (b, W, v) hf (ja_cons (je_name 0) (ja1 (je_name 1))) (fun H v K h => by rw [List.map_map]; exact h))) fun _ _ h => h
end
end Lk
end

section
set_option Elab.async false
set_option linter.all false
set_option maxRecDepth 100000
set_option maxHeartbeats 1000000
/-! part_web, tree_sizes. -/
namespace Lk
open PySem PySem.Spec L2
open PyProof.Rows hiding St
open Evl (Ex)
open M (Bk Rl Mv Vl Wb Wy)
section
variable {P : Program} {w : World} {K : PySem.W.Frag} {mg : Str → Option Value} {base : Heap} {f : Addr} {fd : FuncData} {CB CW CR : Addr}
abbrev spRawPartWeb (CW CR : Addr) : Sp := mkSp (α := Bk × Wb × Nat) (fun a _ => Fw a.1 a.2.1 a.2.2) (fun a => [webV CW CR a.2.1, vN a.2.2]) (fun a _ => webV CW CR (M.partW a.2.1 a.2.2))
theorem fc_raw_part_web (g : Gk K mg CB CW CR) (cr : Fc P w K mg base 1 "raw_below" (spRawBelow CW CR)) (ci : Fi P w K mg base 1 CR (inRaw P w CW CR)) (F : FnP K "raw_part_web" s_raw_part_web f fd) (gm : mg "raw_part_web" = some (.ref f)) : Fc P w K mg base 3 "raw_part_web" (spRawPartWeb CW CR) := by
  refine fc_of F gm sc_raw_part_web (F.bindsN fun _ _ _ _ _ _ us hl => match us, hl with | [_, _], _ => rfl) (fun _ => rfl) ?_
  rintro ⟨b, W, v⟩ Fr cdv A outer s E hr hf
  replace hf : Fw b W v := hf
  have hf' := hf
  obtain ⟨ok, wok, few, hv⟩ := hf
  have blen := M.bel_len W v
  have bnd := M.bel_nodup W v
  refine js_set (P := vL ((M.bel W v).map vN)) 2 sc_raw_part_web.nd (je_call cr (hr.mono (by decide)) (b, W, v) hf' (ja_cons (je_name 0) (ja1 (je_name 1))) (fun _ _ _ h => h)) ?_
  refine js_set (P := vK ((M.bel W v).map (kvf (fun n : Nat => n) fun n => V.int ((M.bel W v).idxOf n : Nat)))) 3 sc_raw_part_web.nd (je_imp (je_new (jn_dcK [("place", 8), ("number", 5)] (List.range (M.bel W v).length) (fun i => vT [vN i, vN ((M.bel W v).getD i 0)]) (fun _ => true) (fun i => (M.bel W v).getD i 0) (fun i => V.int (i : Nat)) hr rfl sc_raw_part_web.nd (blkOk_by (by rfl))
    (ji_imp (ji_enL g.fr (je_name 2)) ?_) (by rw [List.length_range]; exact Nat.lt_of_le_of_lt (by omega : _ ≤ 64) (by decide)) ?_ ?_)) fun vv K h => ?_) ?_
  · rw [List.length_map]
    apply List.map_congr_left
    intro i hi
    have hi := List.mem_range.mp hi
    rw [getD_get (d := vNone) (x := vN (M.bel W v)[i]) (by rw [List.getElem?_map, List.getElem?_eq_getElem hi]; rfl), getD_get (List.getElem?_eq_getElem hi)]
  · rw [List.filter_eq_self.mpr (fun _ _ => rfl)]
    have e : (List.range (M.bel W v).length).map (fun i => (M.bel W v).getD i 0) = M.bel W v := by
      apply List.ext_getElem
      · simp
      · intro i h1 h2
        simp [List.getD_eq_getElem?_getD, h2]
    rw [e]
    exact bnd
  · intro i hi A' O vv Pc
    exact jent2 8 5 rfl sc_raw_part_web.nd fun s H0 C cl fp => ⟨jts_nil, fun _ => ⟨je_name 5, je_imp (je_name 8) fun v K h => vD_num.mp h⟩⟩
  · rw [List.filter_eq_self.mpr (fun _ _ => rfl)] at h
    have e : (List.range (M.bel W v).length).map (kvf (fun i => (M.bel W v).getD i 0) fun i => V.int (i : Nat)) = (M.bel W v).map (kvf (fun n : Nat => n) fun n => V.int ((M.bel W v).idxOf n : Nat)) := by
      apply List.ext_getElem
      · simp
      · intro i h1 h2
        rw [List.length_map] at h2
        rw [List.getElem_map, List.getElem_map, List.getElem_range]
        show (Sum.inl (((M.bel W v).getD i 0 : Nat) : Int), V.int (i : Nat)) = (Sum.inl (((M.bel W v)[i] : Nat) : Int), V.int ((M.bel W v).idxOf (M.bel W v)[i] : Nat))
        rw [M.idx_of bnd h2, getD_get (List.getElem?_eq_getElem h2)]
    rw [e] at h
    exact h
  refine js_new 4 sc_raw_part_web.nd (jn_lst ja_nil) fun p4 => ?_
  refine js_for (fun i Γ => Γ = ⟨[some (webV CW CR W), some (vN v), some (vL ((M.bel W v).map vN)), some (vK ((M.bel W v).map (kvf (fun n : Nat => n) fun n => V.int ((M.bel W v).idxOf n : Nat)))), some (vE (.ref p4)), none, none, none, none, none], [(p4, oL (((M.partW W v).take i).map fun x => vD (vlD x)))], []⟩) rfl rfl
    (ji_lst (je_name 2)) rfl ?_ ?_
  · rintro i P' Γ1 hP rfl v1 Pc1
    rw [List.getElem?_map] at hP
    obtain ⟨n, e1, rfl⟩ := Option.map_eq_some_iff.mp hP
    obtain ⟨hi, e3⟩ := List.getElem?_eq_some_iff.mp e1
    have hn : n ∈ M.bel W v := List.mem_of_getElem? e1
    have hr' := (M.mem_bel wok hv).mp hn
    have hnl : n < W.length := by have := M.rch_le wok hr' hv; omega
    have hp2 : (M.vl W n).parts.length ≤ 2 := ((wv_of ok wok).at_ n hnl).2.1
    have hD : (W.map vlD)[n]? = some (vlD (M.vl W n)) := by rw [List.getElem?_map, vl_at hnl]; rfl
    refine ⟨_, _, jg_name 5 sc_raw_part_web.nd, ?_⟩
    refine js_tg (je_ixT (d := vlD (M.vl W n)) (je_rows g (je_name 0)) (je_name 5) (at_nat hD)) (jg_tupD (ds := [dN (M.vl W n).op, dTN (M.vl W n).parts]) (jg_tup rfl (jgs_cons (jg_name 6 sc_raw_part_web.nd) (jgs_cons (jg_name 7 sc_raw_part_web.nd) jgs_nil)))) ?_
    refine js_append 0 (je_name 4) (je_tupD (ds := [dN (M.vl W n).op, dTN ((M.vl W n).parts.map fun q => (M.bel W v).idxOf q)]) (ja_cons (je_name 6) (ja1 (je_tupleD (ds := ((M.vl W n).parts.map fun q => (M.bel W v).idxOf q).map dN) g.fr (je_imp (je_new (jn_lc [("part", 9)] (M.vl W n).parts (fun q => vN q) (fun _ => true) (fun q => vN ((M.bel W v).idxOf q)) rfl sc_raw_part_web.nd (blkOk_by (by rfl)) (ji_imp (ji_tupD (ds := (M.vl W n).parts.map dN) (je_name 7)) (by rw [List.map_map]; rfl)) (Nat.lt_of_le_of_lt hp2 (by decide)) ?_)) fun vv K h => ?_))))) ?_ ?_
    · intro q hq A' O v' Pc'
      have hqb : q ∈ M.bel W v := (M.mem_bel wok hv).mpr (hr'.trans (.step hq (.refl _)))
      exact jelt1 9 sc_raw_part_web.nd fun s H0 C cl fp => ⟨jts_nil, fun _ => je_imp (je_ixK (v := V.int ((M.bel W v).idxOf q : Nat)) hr (rdk ((M.bel W v).map (kvf (fun n : Nat => n) fun n => V.int ((M.bel W v).idxOf n : Nat)))) (je_name 3) (je_name 9) (valV_some (kf := fun n : Nat => n) (gf := fun n => V.int ((M.bel W v).idxOf n : Nat)) (fun _ _ _ _ e => e) hqb)) fun v K h => vD_num.mpr h⟩
    · rw [List.filter_eq_self.mpr (fun _ _ => rfl)] at h
      rw [List.map_map, List.map_map]
      exact h
    · rw [List.length_map, List.length_take]
      exact Nat.lt_of_le_of_lt (Nat.le_trans (Nat.min_le_right _ _) (by rw [M.partW_len]; omega : _ ≤ 64)) (by decide)
    · refine js_nil ⟨_, rfl, (by repeat' first | exact True.intro | refine ⟨fun _ _ h => h, ?_⟩), ?_, rfl⟩
      show [(p4, oL _)] = [(p4, oL _)]
      congr 3
      have : (M.partW W v)[i]? = some ⟨(M.vl W n).op, (M.vl W n).parts.map fun q => (M.bel W v).idxOf q⟩ := by
        unfold M.partW
        rw [List.getElem?_map, e1]
        rfl
      rw [List.take_succ, this, List.map_append]
      rfl
  · rintro Γ' rfl
    rw [List.length_map, List.take_of_length_le (by rw [M.partW_len]; exact Nat.le_refl _)]
    refine js_show 4 0 rfl rfl ?_
    exact js_ret (je_make ci (hr.mono (by decide)) g.gR (M.partW W v, none) (fun _ e => nomatch e) (ja1 (je_imp (je_name 4) fun v K h => by rw [List.map_map]; exact h))) fun _ _ h => h
abbrev spPartWeb (CW CR : Addr) : Sp := spRawPartWeb CW CR
theorem fc_part_web (g : Gk K mg CB CW CR) (cv : Fc P w K mg base 3 "check_value" (spCheckValue CW CR)) (cr : Fc P w K mg base 3 "raw_part_web" (spRawPartWeb CW CR)) (F : FnP K "part_web" s_part_web f fd) (gm : mg "part_web" = some (.ref f)) : Fc P w K mg base 4 "part_web" (spRawPartWeb CW CR) := by
  refine fc_of F gm sc_part_web (F.bindsN fun _ _ _ _ _ _ us hl => match us, hl with | [_, _], _ => rfl) (fun _ => rfl) ?_
  rintro ⟨b, W, v⟩ Fr cdv A outer s E hr hf
  replace hf : Fw b W v := hf
  refine js_drop (P := vNone) (je_call cv (hr.mono (by decide)) (W, v) hf.lt (ja_cons (je_name 0) (ja1 (je_name 1))) (fun _ _ _ h => h)) ?_
  exact js_ret (je_call cr (hr.mono (by decide)) (b, W, v) hf (ja_cons (je_name 0) (ja1 (je_name 1))) (fun _ _ _ h => h)) fun _ _ h => h
end
end Lk
end

section
set_option Elab.async false
set_option linter.all false
set_option maxHeartbeats 1000000
/-! The tree of a value, unfolded. -/
namespace Lk.M
section
variable {b : Bk} {w : Wb}
def tzF (w : Wb) : Nat → Nat → Nat
  | 0, _ => 0
  | k + 1, v => 1 + ((vl w v).parts.map (tzF w k)).sum
theorem tzF_fuel (wok : Wok b w) : ∀ (k v : Nat), v < w.length → v < k → tzF w k v = tzF w (v + 1) v := by
  intro k
  induction k using Nat.strongRecOn with
  | ind k ih =>
    intro v hv hk
    obtain ⟨j, rfl⟩ : ∃ j, k = j + 1 := ⟨k - 1, by omega⟩
    show 1 + _ = 1 + _
    congr 2
    apply List.map_congr_left
    intro p hp
    have := (wok.at_ v hv).2.2 p hp
    by_cases e : v = j
    · rw [e]
    · rw [ih j (by omega) p (by omega) (by omega), ih v (by omega) p (by omega) (by omega)]
def tz (w : Wb) (v : Nat) : Nat := tzF w (v + 1) v
theorem tz_eq (wok : Wok b w) {v : Nat} (hv : v < w.length) : tz w v = 1 + ((vl w v).parts.map (tz w)).sum := by
  unfold tz
  show 1 + _ = 1 + _
  congr 2
  apply List.map_congr_left
  intro p hp
  have := (wok.at_ v hv).2.2 p hp
  exact tzF_fuel wok v p (by omega) this
theorem tz_pos (wok : Wok b w) {v : Nat} (hv : v < w.length) : 1 ≤ tz w v := by rw [tz_eq wok hv]; omega
/-- the places of the parts, from a start on -/
def offs (w : Wb) : Nat → List Nat → List Nat
  | _, [] => []
  | s, p :: l => (s + tz w p - 1) :: offs w (s + tz w p) l
def gos (w : Wb) (f : Nat → Nat → List (Nat × List Nat)) : Nat → List Nat → List (Nat × List Nat)
  | _, [] => []
  | s, p :: l => f s p ++ gos w f (s + tz w p) l
def unfF (w : Wb) : Nat → Nat → Nat → List (Nat × List Nat)
  | 0, _, _ => []
  | k + 1, s, v => gos w (unfF w k) s (vl w v).parts ++ [(v, offs w s (vl w v).parts)]
theorem offs_len (s : Nat) (l : List Nat) : (offs w s l).length = l.length := by
  induction l generalizing s with
  | nil => rfl
  | cons p l ih => show (offs w _ l).length + 1 = l.length + 1; rw [ih]
/-- all values of a list are of the web -/
theorem go_fuel {f f' : Nat → Nat → List (Nat × List Nat)} {l : List Nat} (h : ∀ p ∈ l, ∀ s, f s p = f' s p) : ∀ s, gos w f s l = gos w f' s l := by
  induction l with
  | nil => exact fun _ => rfl
  | cons p l ih =>
    intro s
    show f s p ++ _ = f' s p ++ _
    rw [h p (List.mem_cons_self ..), ih fun q hq => h q (List.mem_cons_of_mem _ hq)]
theorem unfF_fuel (wok : Wok b w) : ∀ (k v : Nat), v < w.length → v < k → ∀ s, unfF w k s v = unfF w (v + 1) s v := by
  intro k
  induction k using Nat.strongRecOn with
  | ind k ih =>
    intro v hv hk s
    obtain ⟨j, rfl⟩ : ∃ j, k = j + 1 := ⟨k - 1, by omega⟩
    show gos w (unfF w j) s _ ++ _ = gos w (unfF w v) s _ ++ _
    congr 1
    refine go_fuel (fun p hp s => ?_) s
    have := (wok.at_ v hv).2.2 p hp
    by_cases e : v = j
    · rw [e]
    · rw [ih j (by omega) p (by omega) (by omega), ih v (by omega) p (by omega) (by omega)]
def unf (w : Wb) (s v : Nat) : List (Nat × List Nat) := unfF w (v + 1) s v
abbrev unfs (w : Wb) : Nat → List Nat → List (Nat × List Nat) := gos w (unf w)
theorem unf_eq (wok : Wok b w) {v : Nat} (hv : v < w.length) (s : Nat) : unf w s v = unfs w s (vl w v).parts ++ [(v, offs w s (vl w v).parts)] := by
  show gos w (unfF w v) s _ ++ _ = gos w (unf w) s _ ++ _
  congr 1
  refine go_fuel (fun p hp s => ?_) s
  have := (wok.at_ v hv).2.2 p hp
  exact unfF_fuel wok v p (by omega) this s
theorem unfs_len {l : List Nat} (h : ∀ p ∈ l, ∀ s, (unf w s p).length = tz w p) : ∀ s, (unfs w s l).length = (l.map (tz w)).sum := by
  induction l with
  | nil => exact fun _ => rfl
  | cons p l ih =>
    intro s
    show (unf w s p ++ _).length = _
    rw [List.length_append, h p (List.mem_cons_self ..), ih fun q hq => h q (List.mem_cons_of_mem _ hq)]
    rfl
theorem unf_len (wok : Wok b w) : ∀ v, v < w.length → ∀ s, (unf w s v).length = tz w v := by
  intro v
  induction v using Nat.strongRecOn with
  | ind v ih =>
    intro hv s
    have hp := (wok.at_ v hv).2.2
    rw [unf_eq wok hv, List.length_append, unfs_len (fun p hp' s => ih p (hp p hp') (by have := hp p hp'; omega) s), tz_eq wok hv]
    show _ + 1 = _
    omega
/-- a row is right within all rows -/
structure RowOk (w : Wb) (R : List (Nat × List Nat)) (i : Nat) (r : Nat × List Nat) : Prop where
  lt : r.1 < w.length
  st : tz w r.1 ≤ i + 1
  pl : r.2 = offs w (i + 1 - tz w r.1) (vl w r.1).parts
  ph : ∀ (j q : Nat), r.2[j]? = some q → ∃ ps, R[q]? = some ((vl w r.1).parts.getD j 0, ps)
theorem last_unf (wok : Wok b w) {v : Nat} (hv : v < w.length) (s : Nat) {R : List (Nat × List Nat)} (h : ∀ (i : Nat) r, (unf w s v)[i]? = some r → R[s + i]? = some r) : R[s + tz w v - 1]? = some (v, offs w s (vl w v).parts) := by
  have hl := unf_len wok v hv s
  have hp := tz_pos wok hv
  have : (unf w s v)[tz w v - 1]? = some (v, offs w s (vl w v).parts) := by
    have hl2 : (unfs w s (vl w v).parts).length = tz w v - 1 := by
      have e := unf_eq wok hv s
      rw [e, List.length_append] at hl
      have : [(v, offs w s (vl w v).parts)].length = 1 := rfl
      omega
    rw [unf_eq wok hv, List.getElem?_append_right (by omega), hl2, Nat.sub_self]
    rfl
  have := h _ _ this
  rw [show s + tz w v - 1 = s + (tz w v - 1) by omega]
  exact this
theorem offs_ph (wok : Wok b w) {R : List (Nat × List Nat)} : ∀ {l : List Nat} {s : Nat}, (∀ p ∈ l, p < w.length) → (∀ (i : Nat) r, (unfs w s l)[i]? = some r → R[s + i]? = some r) → ∀ (j q : Nat), (offs w s l)[j]? = some q → ∃ ps, R[q]? = some (l.getD j 0, ps)
  | [], _, _, _, _, _, e => nomatch e
  | p :: l, s, hl, h, j, q, e => by
    have hp := hl p (List.mem_cons_self ..)
    have h1 : ∀ (i : Nat) r, (unf w s p)[i]? = some r → R[s + i]? = some r := fun i r hr => h i r (by
      show (unf w s p ++ _)[i]? = _
      rw [List.getElem?_append_left (List.getElem?_eq_some_iff.mp hr).1]
      exact hr)
    cases j with
    | zero =>
      cases e
      exact ⟨_, last_unf wok hp s h1⟩
    | succ j =>
      refine offs_ph wok (fun q hq => hl q (List.mem_cons_of_mem _ hq)) (fun i r hr => ?_) j q e
      have := h (tz w p + i) r (by
        show (unf w s p ++ _)[_]? = _
        rw [List.getElem?_append_right (by rw [unf_len wok p hp]; omega), unf_len wok p hp, show tz w p + i - tz w p = i by omega]
        exact hr)
      rw [show s + tz w p + i = s + (tz w p + i) by omega]
      exact this
theorem rows_ok (wok : Wok b w) (R : List (Nat × List Nat)) : ∀ v, v < w.length → ∀ s, (∀ (i : Nat) r, (unf w s v)[i]? = some r → R[s + i]? = some r) → ∀ (i : Nat) r, (unf w s v)[i]? = some r → RowOk w R (s + i) r := by
  intro v
  induction v using Nat.strongRecOn with
  | ind v ih =>
    intro hv s h i r hr
    have hp := (wok.at_ v hv).2.2
    have hu := unf_eq wok hv s
    have parts : ∀ (l : List Nat) (s : Nat), (∀ p ∈ l, p < v) → (∀ (i : Nat) r, (unfs w s l)[i]? = some r → R[s + i]? = some r) → ∀ (i : Nat) r, (unfs w s l)[i]? = some r → RowOk w R (s + i) r := by
      intro l
      induction l with
      | nil => exact fun _ _ _ _ _ e => nomatch e
      | cons p l ihl =>
        intro s hl h i r hr
        have hpl := hl p (List.mem_cons_self ..)
        have hlen := unf_len wok p (by omega) s
        have hr' : (unf w s p ++ unfs w (s + tz w p) l)[i]? = some r := hr
        by_cases e : i < tz w p
        · rw [List.getElem?_append_left (by omega)] at hr'
          refine ih p hpl (by omega) s (fun i r hr => h i r ?_) i r hr'
          show (unf w s p ++ _)[i]? = _
          rw [List.getElem?_append_left (List.getElem?_eq_some_iff.mp hr).1]
          exact hr
        · rw [List.getElem?_append_right (by omega), hlen] at hr'
          have := ihl (s + tz w p) (fun q hq => hl q (List.mem_cons_of_mem _ hq)) (fun i r hr => by
            have := h (tz w p + i) r (by
              show (unf w s p ++ _)[_]? = _
              rw [List.getElem?_append_right (by omega), hlen, show tz w p + i - tz w p = i by omega]
              exact hr)
            rw [show s + tz w p + i = s + (tz w p + i) by omega]
            exact this) (i - tz w p) r hr'
          rw [show s + tz w p + (i - tz w p) = s + i by omega] at this
          exact this
    have hlen := unf_len wok v hv s
    have hl2 : (unfs w s (vl w v).parts).length = tz w v - 1 := by
      rw [hu, List.length_append] at hlen
      have : [(v, offs w s (vl w v).parts)].length = 1 := rfl
      omega
    have hpos := tz_pos wok hv
    have hps : ∀ (i : Nat) r, (unfs w s (vl w v).parts)[i]? = some r → R[s + i]? = some r := fun i r hr => h i r (by
      rw [hu, List.getElem?_append_left (List.getElem?_eq_some_iff.mp hr).1]
      exact hr)
    by_cases e : i < tz w v - 1
    · rw [hu, List.getElem?_append_left (by omega)] at hr
      exact parts _ s hp hps i r hr
    · rw [hu, List.getElem?_append_right (by omega), hl2] at hr
      have hi : i - (tz w v - 1) < 1 := (List.getElem?_eq_some_iff.mp hr).1
      have hi2 : i = tz w v - 1 := by omega
      rw [show i - (tz w v - 1) = 0 by omega] at hr
      cases hr
      have es : s + i + 1 - tz w v = s := by omega
      refine ⟨hv, by show tz w v ≤ s + i + 1; omega, by show offs w s _ = offs w (s + i + 1 - tz w v) _; rw [es], fun j q hq => offs_ph wok (fun p hp' => by have := hp p hp'; omega) hps j q hq⟩
end
end Lk.M
end

section
set_option Elab.async false
set_option linter.all false
set_option maxHeartbeats 1000000
/-! The web that the tree is. -/
namespace Lk.M
section
variable {b : Bk} {w : Wb}
theorem offs_in : ∀ {l : List Nat} {s : Nat}, (∀ p ∈ l, 1 ≤ tz w p) → ∀ (j q : Nat), (offs w s l)[j]? = some q → s + tz w (l.getD j 0) ≤ q + 1 ∧ q < s + (l.map (tz w)).sum ∧ l.getD j 0 ∈ l
  | [], _, _, _, _, e => nomatch e
  | p :: l, s, h, 0, q, e => by
    cases e
    have := h p (List.mem_cons_self ..)
    refine ⟨?_, ?_, List.mem_cons_self ..⟩
    · show s + tz w p ≤ s + tz w p - 1 + 1; omega
    · show s + tz w p - 1 < s + (tz w p + (l.map (tz w)).sum); omega
  | p :: l, s, h, j + 1, q, e => by
    obtain ⟨h1, h2, h3⟩ := offs_in (l := l) (s := s + tz w p) (fun q hq => h q (List.mem_cons_of_mem _ hq)) j q e
    refine ⟨?_, ?_, List.mem_cons_of_mem _ h3⟩
    · show s + tz w (l.getD j 0) ≤ _; omega
    · show q < s + (tz w p + (l.map (tz w)).sum); omega
theorem offs_sep : ∀ {l : List Nat} {s : Nat}, (∀ p ∈ l, 1 ≤ tz w p) → ∀ (j k q r : Nat), j < k → (offs w s l)[j]? = some q → (offs w s l)[k]? = some r → q + 1 + tz w (l.getD k 0) ≤ r + 1
  | [], _, _, _, _, _, _, _, e, _ => nomatch e
  | p :: l, s, h, 0, k + 1, q, r, _, e1, e2 => by
    cases e1
    have := h p (List.mem_cons_self ..)
    obtain ⟨h1, _, _⟩ := offs_in (l := l) (s := s + tz w p) (fun q hq => h q (List.mem_cons_of_mem _ hq)) k r e2
    show s + tz w p - 1 + 1 + tz w (l.getD k 0) ≤ _
    omega
  | p :: l, s, h, j + 1, k + 1, q, r, hjk, e1, e2 => offs_sep (l := l) (s := s + tz w p) (fun q hq => h q (List.mem_cons_of_mem _ hq)) j k q r (by omega) e1 e2
def unfV (w : Wb) (r : Nat × List Nat) : Vl := ⟨(vl w r.1).op, r.2⟩
def unfW (w : Wb) (v : Nat) : Wb := (unf w 0 v).map (unfV w)
def unfP (w : Wb) (v i : Nat) : Nat := ((unf w 0 v).getD i (0, [])).1
theorem unfW_len (wok : Wok b w) {v : Nat} (hv : v < w.length) : (unfW w v).length = tz w v := by unfold unfW; rw [List.length_map, unf_len wok v hv]
theorem unf_row (wok : Wok b w) {v : Nat} (hv : v < w.length) {i : Nat} (hi : i < tz w v) : ∃ r, (unf w 0 v)[i]? = some r ∧ RowOk w (unf w 0 v) i r ∧ vl (unfW w v) i = unfV w r ∧ unfP w v i = r.1 := by
  have hl := unf_len wok v hv 0
  have h1 : i < (unf w 0 v).length := by omega
  have e := List.getElem?_eq_getElem h1
  refine ⟨_, e, ?_, ?_, ?_⟩
  · have := rows_ok wok (unf w 0 v) v hv 0 (fun i r h => by rw [Nat.zero_add]; exact h) i _ e
    rw [Nat.zero_add] at this
    exact this
  · unfold unfW vl
    rw [List.getD_eq_getElem?_getD, List.getElem?_map, e]
    rfl
  · unfold unfP
    rw [List.getD_eq_getElem?_getD, e]
    rfl
theorem unf_hom (wok : Wok b w) {v : Nat} (hv : v < w.length) : Hom b (unfW w v) w (fun i => i < tz w v) (unfP w v) where
  dom := fun i hi => by
    obtain ⟨r, e, ok, ev, ep⟩ := unf_row wok hv hi
    exact ⟨by rw [unfW_len wok hv]; exact hi, by rw [ep]; exact ok.lt⟩
  op := fun i hi => by
    obtain ⟨r, e, ok, ev, ep⟩ := unf_row wok hv hi
    rw [ev, ep]; rfl
  parts := fun i hi => by
    obtain ⟨r, e, ok, ev, ep⟩ := unf_row wok hv hi
    rw [ev, ep]
    show _ = r.2.map _
    apply List.ext_getElem?
    intro j
    rw [List.getElem?_map]
    cases q : r.2[j]? with
    | none =>
      rw [List.getElem?_eq_none_iff] at q
      rw [ok.pl, offs_len] at q
      rw [List.getElem?_eq_none_iff.mpr q]
      rfl
    | some x =>
      obtain ⟨ps, hx⟩ := ok.ph j x q
      have hj : j < (vl w r.1).parts.length := by
        have := (List.getElem?_eq_some_iff.mp q).1
        rw [ok.pl, offs_len] at this
        exact this
      show _ = some (unfP w v x)
      unfold unfP
      rw [List.getD_eq_getElem?_getD, hx]
      show _ = some ((vl w r.1).parts.getD j 0)
      rw [List.getD_eq_getElem?_getD, List.getElem?_eq_getElem hj]
      rfl
  cl := fun i hi p hp => by
    obtain ⟨r, e, ok, ev, ep⟩ := unf_row wok hv hi
    rw [ev] at hp
    obtain ⟨j, hj⟩ := List.getElem?_of_mem (show p ∈ r.2 from hp)
    obtain ⟨ps, hx⟩ := ok.ph j p hj
    have := (List.getElem?_eq_some_iff.mp hx).1
    rw [unf_len wok v hv] at this
    exact this
/-- a part of a row of the tree -/
theorem unf_part (wok : Wok b w) {v : Nat} (hv : v < w.length) {i : Nat} (hi : i < tz w v) : ∀ (j p : Nat), (vl (unfW w v) i).parts[j]? = some p → p < i ∧ tz w (unfP w v i) ≤ i + 1 ∧ i + 1 + tz w (unfP w v p) ≤ p + 1 + tz w (unfP w v i) ∧ ∀ (k q : Nat), j < k → (vl (unfW w v) i).parts[k]? = some q → p + 1 + tz w (unfP w v q) ≤ q + 1 := by
  intro j p hj
  obtain ⟨r, e, ok, ev, ep⟩ := unf_row wok hv hi
  rw [ev] at hj ⊢
  have hj : r.2[j]? = some p := hj
  have hpos : ∀ x ∈ (vl w r.1).parts, 1 ≤ tz w x := fun x hx => tz_pos wok (by have := (wok.at_ r.1 ok.lt).2.2 x hx; have := ok.lt; omega)
  have tzr := tz_eq wok ok.lt
  have st := ok.st
  have phi : ∀ (j p : Nat), r.2[j]? = some p → unfP w v p = (vl w r.1).parts.getD j 0 := fun j p h => by
    obtain ⟨ps, hx⟩ := ok.ph j p h
    unfold unfP
    rw [List.getD_eq_getElem?_getD, hx]
    rfl
  have hj' := hj
  rw [ok.pl] at hj'
  obtain ⟨a1, a2, a3⟩ := offs_in hpos j p hj'
  rw [ep, phi j p hj]
  refine ⟨by omega, st, by omega, fun k q hk hq => ?_⟩
  have hq : r.2[k]? = some q := hq
  have hq' := hq
  rw [ok.pl] at hq'
  rw [phi k q hq]
  exact offs_sep hpos j k p q hk hj' hq'
theorem unf_rch (wok : Wok b w) {v : Nat} (hv : v < w.length) {i x : Nat} (h : Rch (unfW w v) i x) : i < tz w v → x ≤ i ∧ i + 1 ≤ x + tz w (unfP w v i) := by
  induction h with
  | refl i =>
    intro hi
    obtain ⟨r, e, ok, ev, ep⟩ := unf_row wok hv hi
    have := tz_pos wok ok.lt
    rw [ep]
    exact ⟨Nat.le_refl _, by omega⟩
  | step hp _ ih =>
    intro hi
    obtain ⟨j, hj⟩ := List.getElem?_of_mem hp
    obtain ⟨h1, h2, h3, _⟩ := unf_part wok hv hi j _ hj
    have := ih (by omega)
    omega
theorem unf_tree (wok : Wok b w) {v : Nat} (hv : v < w.length) : Tree (unfW w v) := by
  intro i
  by_cases hi : i < tz w v
  · rw [List.pairwise_iff_getElem]
    intro j k hj hk hjk x r1 r2
    have e1 := List.getElem?_eq_getElem hj
    have e2 := List.getElem?_eq_getElem hk
    obtain ⟨h1, h2, h3, h4⟩ := unf_part wok hv hi j _ e1
    obtain ⟨g1, _, _, _⟩ := unf_part wok hv hi k _ e2
    have := h4 k _ hjk e2
    have a1 := unf_rch wok hv r1 (by omega)
    have a2 := unf_rch wok hv r2 (by omega)
    omega
  · have : vl (unfW w v) i = default := by
      unfold vl
      rw [List.getD_eq_getElem?_getD, List.getElem?_eq_none_iff.mpr (by rw [unfW_len wok hv]; omega)]
      rfl
    rw [this]
    exact .nil
theorem unf_ok (wok : Wok b w) {v : Nat} (hv : v < w.length) (h : tz w v ≤ 200) : Wok b (unfW w v) where
  len := by rw [unfW_len wok hv]; exact h
  at_ := fun i hi => by
    rw [unfW_len wok hv] at hi
    have hm := unf_hom wok hv
    have hd := (hm.dom i hi).2
    obtain ⟨h1, h2, _⟩ := wok.at_ _ hd
    have eo := hm.op i hi
    have ep := hm.parts i hi
    rw [eo] at h1 h2
    rw [ep, List.length_map] at h2
    refine ⟨h1, h2, fun p hp => ?_⟩
    obtain ⟨j, hj⟩ := List.getElem?_of_mem hp
    exact (unf_part wok hv hi j p hj).1
theorem unf_root (wok : Wok b w) {v : Nat} (hv : v < w.length) : unfP w v (tz w v - 1) = v := by
  have := last_unf wok hv 0 (R := unf w 0 v) fun i r h => by rw [Nat.zero_add]; exact h
  unfold unfP
  rw [List.getD_eq_getElem?_getD]
  rw [Nat.zero_add] at this
  rw [this]
  rfl
end
end Lk.M
end

section
set_option Elab.async false
set_option linter.all false
set_option maxHeartbeats 1000000
/-! The unfolding, step by step. -/
namespace Lk.M
abbrev Rw := Nat × List Nat
inductive Run (w : Wb) (R : List Rw) : Nat → List Rw → List Nat → List (Nat × Bool) → Prop where
  | done (M : List Nat) : Run w R 0 R M []
  | ready (m n : Nat) (F : List Rw) (M ps : List Nat) (L : List (Nat × Bool)) (hn : n < w.length) (hp : ps.length = (vl w n).parts.length) (h : Run w R m (F ++ [(n, ps)]) (M ++ [F.length]) L) : Run w R (m + 1) F (M ++ ps) (L ++ [(n, true)])
  | opn (m n : Nat) (F : List Rw) (M : List Nat) (L : List (Nat × Bool)) (hn : n < w.length) (h : Run w R m F M (L ++ [(n, true)] ++ (vl w n).parts.reverse.map fun p => (p, false))) : Run w R (m + 1) F M (L ++ [(n, false)])
section
variable {b : Bk} {w : Wb} {R : List Rw}
theorem run_parts (wok : Wok b w) : ∀ {l : List Nat}, (∀ p ∈ l, ∀ (F : List Rw) (M : List Nat) (L : List (Nat × Bool)) (m : Nat), Run w R m (F ++ unf w F.length p) (M ++ [F.length + tz w p - 1]) L → Run w R (m + 2 * tz w p) F M (L ++ [(p, false)])) →
    (∀ p ∈ l, ∀ s, (unf w s p).length = tz w p) → ∀ (F : List Rw) (M : List Nat) (L : List (Nat × Bool)) (m : Nat), Run w R m (F ++ unfs w F.length l) (M ++ offs w F.length l) L → Run w R (m + 2 * (l.map (tz w)).sum) F M (L ++ l.reverse.map fun p => (p, false))
  | [], _, _, F, M, L, m, h => by
    have h : Run w R m (F ++ []) (M ++ []) L := h
    rw [List.append_nil, List.append_nil] at h
    show Run w R (m + 0) F M (L ++ [])
    rw [List.append_nil]
    exact h
  | p :: l, hp, hlen, F, M, L, m, h => by
    rw [List.reverse_cons, List.map_append, ← List.append_assoc]
    have e : m + 2 * ((p :: l).map (tz w)).sum = m + 2 * (l.map (tz w)).sum + 2 * tz w p := by
      rw [List.map_cons, List.sum_cons]; omega
    rw [e]
    refine hp p (List.mem_cons_self ..) F M _ _ ?_
    refine run_parts wok (fun q hq => hp q (List.mem_cons_of_mem _ hq)) (fun q hq => hlen q (List.mem_cons_of_mem _ hq)) _ _ L m ?_
    have e2 : (F ++ unf w F.length p).length = F.length + tz w p := by rw [List.length_append, hlen p (List.mem_cons_self ..)]
    rw [e2, List.append_assoc, List.append_assoc]
    exact h
theorem run_v (wok : Wok b w) : ∀ v, v < w.length → ∀ (F : List Rw) (M : List Nat) (L : List (Nat × Bool)) (m : Nat), Run w R m (F ++ unf w F.length v) (M ++ [F.length + tz w v - 1]) L → Run w R (m + 2 * tz w v) F M (L ++ [(v, false)]) := by
  intro v
  induction v using Nat.strongRecOn with
  | ind v ih =>
    intro hv F M L m h
    have hp := (wok.at_ v hv).2.2
    have tzv := tz_eq wok hv
    have ulen : ∀ p ∈ (vl w v).parts, ∀ s, (unf w s p).length = tz w p := fun p hp' s => unf_len wok p (by have := hp p hp'; omega) s
    have hl : (unfs w F.length (vl w v).parts).length = ((vl w v).parts.map (tz w)).sum := unfs_len ulen _
    have e : m + 2 * tz w v = (m + 1 + 2 * ((vl w v).parts.map (tz w)).sum) + 1 := by omega
    rw [e]
    refine .opn _ v F M L hv ?_
    refine run_parts wok (fun p hp' => ih p (hp p hp') (by have := hp p hp'; omega)) ulen F M (L ++ [(v, true)]) (m + 1) ?_
    refine .ready m v _ M _ L hv (offs_len _ _) ?_
    rw [List.length_append, hl, List.append_assoc, ← unf_eq wok hv]
    rw [show F.length + ((vl w v).parts.map (tz w)).sum = F.length + tz w v - 1 by omega]
    exact h
theorem run_all (wok : Wok b w) {v : Nat} (hv : v < w.length) : Run w (unf w 0 v) (2 * tz w v) [] [] [(v, false)] := by
  have := run_v (R := unf w 0 v) wok v hv [] [] [] 0 (by exact Run.done _)
  rw [Nat.zero_add] at this
  exact this
/-- by the last of what waits -/
theorem run_inv {m : Nat} {F : List Rw} {M : List Nat} {L : List (Nat × Bool)} (h : Run w R m F M L) : (L = [] ∧ F = R) ∨
    (∃ m' n M0 ps L', m = m' + 1 ∧ M = M0 ++ ps ∧ L = L' ++ [(n, true)] ∧ n < w.length ∧ ps.length = (vl w n).parts.length ∧ Run w R m' (F ++ [(n, ps)]) (M0 ++ [F.length]) L') ∨
    (∃ m' n L', m = m' + 1 ∧ L = L' ++ [(n, false)] ∧ n < w.length ∧ Run w R m' F M (L' ++ [(n, true)] ++ (vl w n).parts.reverse.map fun p => (p, false))) := by
  cases h with
  | done M => exact .inl ⟨rfl, rfl⟩
  | ready m n F M ps L hn hp h => exact .inr (.inl ⟨m, n, M, ps, L, rfl, rfl, rfl, hn, hp, h⟩)
  | opn m n F M L hn h => exact .inr (.inr ⟨m, n, L, rfl, rfl, hn, h⟩)
end
end Lk.M
end

section
set_option Elab.async false
set_option linter.all false
set_option maxRecDepth 100000
set_option maxHeartbeats 1000000
/-! tree_sizes, unfolded. -/
namespace Lk
open PySem PySem.Spec L2
open PyProof.Rows hiding St
open Evl (Ex)
open M (Bk Rl Mv Vl Wb Wy)
theorem Env.perm {F : Fm} {Γ : Ct} {σ : L2.St} {H : Hp} (E : Env F Γ σ H) {l : List (Addr × OP)} (h : Γ.own.Perm l) : Env F { Γ with own := l } σ H := by
  have hS : F.S l = F.S Γ.own := by
    funext a
    have : F.S l a = true ↔ F.S Γ.own a = true := by rw [Fm.S_or, Fm.S_or, (h.map (·.1)).mem_iff]
    cases q : F.S Γ.own a with
    | true => exact this.mpr q
    | false =>
      cases z : F.S l a with
      | false => rfl
      | true => rw [this.mp z] at q; cases q
  have hv : F.vw { Γ with own := l } H = F.vw Γ H := by unfold Fm.vw; show hid (F.S l) H = _; rw [hS]
  exact ⟨E.step, E.ok, fun e he => E.new e (h.mem_iff.mpr he), fun e he => by rw [hv]; exact E.own e (h.mem_iff.mpr he), (h.map (·.1)).nodup_iff.mp E.nd, fun i P e => by rw [hv]; exact E.imm i P e, E.len, fun e he => by rw [hv]; exact E.fx e he⟩
theorem js_perm {F : Fm} {X : Cx} {Γ : Ct} {rest : List Stmt} {D : PD} (l : List (Addr × OP)) (h : Γ.own.Perm l) (k : JS F X { Γ with own := l } rest D) : JS F X Γ rest D := js_of (fun σ H E => E.perm h) k
theorem jn_eq {F : Fm} {X : Cx} {Γ : Ct} {e : Expr} {O O' : OP} (h : JN F X Γ e O) (q : O = O') : JN F X Γ e O' := q ▸ h
theorem cut_at {β : Type _} {xs ys : List β} {i : Int} (e : i = (xs.length : Nat)) : cutD (xs ++ ys) (some i) none = ys ∧ cutD (xs ++ ys) none (some i) = xs := by
  subst e
  unfold cutD
  rw [HT.sIx_nat, HT.sIx_nat, HT.sIx_none, HT.sIx_none, List.length_append, Nat.min_eq_left (Nat.le_add_right _ _), List.drop_left, List.drop_zero, Nat.sub_zero, List.take_left]
  exact ⟨List.take_of_length_le (by omega), rfl⟩
def szs (W : Wb) : List Nat := (List.range W.length).map (M.tz W)
section
variable {P : Program} {w : World} {K : PySem.W.Frag} {mg : Str → Option Value} {base : Heap} {f : Addr} {fd : FuncData} {CB CW CR : Addr}
abbrev spTreeSizes (CW CR : Addr) : Sp := mkSp (α := Bk × Wb) (fun a _ => a.1.ok ∧ M.Wok a.1 a.2) (fun a => [webV CW CR a.2]) (fun a _ => vL ((szs a.2).map vN))
theorem fc_tree_sizes (g : Gk K mg CB CW CR) (F : FnP K "tree_sizes" s_tree_sizes f fd) (gm : mg "tree_sizes" = some (.ref f)) : Fc P w K mg base 1 "tree_sizes" (spTreeSizes CW CR) := by
  refine fc_of F gm sc_tree_sizes (F.bindsN fun _ _ _ _ _ _ us hl => match us, hl with | [_], _ => rfl) (fun _ => rfl) ?_
  rintro ⟨b, W⟩ Fr cdv A outer s E hr ⟨ok, wok⟩
  replace ok : b.ok := ok
  replace wok : M.Wok b W := wok
  have w200 := wok.len
  refine js_new 1 sc_tree_sizes.nd (jn_lst ja_nil) fun p => ?_
  refine js_for (fun i Γ => Γ = ⟨[some (webV CW CR W), some (vE (.ref p)), none, none, none], [(p, oL ((List.range i).map fun j => vN (M.tz W j)))], []⟩) rfl rfl
    (ji_tupD (ds := W.map vlD) (je_rows g (je_name 0))) rfl ?_ ?_
  · rintro i P' Γ1 hP rfl v1 Pc1
    rw [List.map_map, List.getElem?_map] at hP
    obtain ⟨x, e1, rfl⟩ := Option.map_eq_some_iff.mp hP
    obtain ⟨hi, e3⟩ := List.getElem?_eq_some_iff.mp e1
    have hx : x = M.vl W i := by rw [vl_at hi] at e1; exact (Option.some.inj e1).symm
    subst hx
    have hp2 := ((wv_of ok wok).at_ i hi).2
    refine ⟨_, _, jg_tupD (ds := [dN (M.vl W i).op, dTN (M.vl W i).parts]) (jg_tup rfl (jgs_cons (jg_name 2 sc_tree_sizes.nd) (jgs_cons (jg_name 3 sc_tree_sizes.nd) jgs_nil))), ?_⟩
    refine js_append 0 (Pe := vN (M.tz W i)) (je_name 1) (je_eq (je_add je_int (je_sum (ns := (M.vl W i).parts.map (M.tz W)) rfl g.fr (je_imp (je_new (jn_lc [("part", 4)] (M.vl W i).parts (fun q => vN q) (fun _ => true) (fun q => vN (M.tz W q)) rfl sc_tree_sizes.nd (blkOk_by (by rfl)) (ji_imp (ji_tupD (ds := (M.vl W i).parts.map dN) (je_name 3)) (by rw [List.map_map]; rfl)) (Nat.lt_of_le_of_lt hp2.1 (by decide)) ?_)) fun vv K h => ?_))) ?_) ?_ ?_
    · intro q hq A' O v' Pc'
      have hqi := hp2.2 q hq
      exact jelt1 4 sc_tree_sizes.nd fun s H0 C cl fp => ⟨jts_nil, fun _ => je_ixL (rdlO (ps := (List.range i).map fun j => vN (M.tz W j)) 0) (je_name 1) (je_name 4) (at_nat (by rw [List.getElem?_map, List.getElem?_range hqi]; rfl))⟩
    · rw [List.filter_eq_self.mpr (fun _ _ => rfl)] at h
      rw [List.map_map]
      exact h
    · show vZ (1 + ((((M.vl W i).parts.map (M.tz W)).sum : Nat) : Int)) = vZ ((M.tz W i : Nat) : Int)
      rw [M.tz_eq wok hi, Int.natCast_add]
      rfl
    · rw [List.length_map, List.length_range]
      exact Nat.lt_of_le_of_lt (by omega : i ≤ 200) (by decide)
    · refine js_nil ⟨_, rfl, (by repeat' first | exact True.intro | refine ⟨fun _ _ h => h, ?_⟩), ?_, rfl⟩
      show [(p, oL (_ ++ _))] = [(p, oL _)]
      rw [List.range_succ, List.map_append]
      rfl
  · rintro Γ' rfl
    rw [List.length_map, List.length_map]
    refine js_show 1 0 rfl rfl ?_
    refine js_ret (je_name 1) fun v K h => ?_
    have h : (vL ((List.range W.length).map fun j => vN (M.tz W j))).p v K := h
    show (vL ((szs W).map vN)).p v K
    unfold szs
    rw [List.map_map]
    exact h
theorem szs_at {W : Wb} {v : Nat} (h : v < W.length) : ((szs W).map vN)[v]? = some (vN (M.tz W v)) := by
  unfold szs
  rw [List.getElem?_map, List.getElem?_map, List.getElem?_range h]
  rfl
def wtV (x : Nat × Bool) : VP := vT [vN x.1, vB x.2]
abbrev spUnfolded (CW CR : Addr) : Sp := mkSp (α := Bk × Wb × Nat) (fun a _ => Fw a.1 a.2.1 a.2.2 ∧ M.tz a.2.1 a.2.2 ≤ 60) (fun a => [webV CW CR a.2.1, vN a.2.2]) (fun a _ => webV CW CR (M.unfW a.2.1 a.2.2))
theorem fc_unfolded (g : Gk K mg CB CW CR) (cv : Fc P w K mg base 3 "check_value" (spCheckValue CW CR)) (ct : Fc P w K mg base 1 "tree_sizes" (spTreeSizes CW CR)) (ci : Fi P w K mg base 1 CR (inRaw P w CW CR)) (F : FnP K "unfolded" s_unfolded f fd) (gm : mg "unfolded" = some (.ref f)) : Fc P w K mg base 4 "unfolded" (spUnfolded CW CR) := by
  refine fc_of F gm sc_unfolded (F.bindsN fun _ _ _ _ _ _ us hl => match us, hl with | [_, _], _ => rfl) (fun _ => rfl) ?_
  rintro ⟨b, W, v⟩ Fr cdv A outer s E hr ⟨hf, h60⟩
  replace hf : Fw b W v := hf
  replace h60 : M.tz W v ≤ 60 := h60
  obtain ⟨ok, wok, few, hv⟩ := hf
  obtain ⟨t10, i10⟩ := g.i10
  refine js_drop (P := vNone) (je_call cv (hr.mono (by decide)) (W, v) hv (ja_cons (je_name 0) (ja1 (je_name 1))) (fun _ _ _ h => h)) ?_
  refine js_skipB (jt_gt (je_ixL (rdl ((szs W).map vN)) (je_call ct (hr.mono (by decide)) (b, W) ⟨ok, wok⟩ (ja1 (je_name 0)) (fun _ _ _ h => h)) (je_name 1) (at_nat (szs_at hv))) (je_glob i10)) (decide_eq_false (by omega)) ?_
  refine js_new 2 sc_unfolded.nd (jn_lst ja_nil) fun pf => ?_
  refine js_new 3 sc_unfolded.nd (jn_lst ja_nil) fun pm => ?_
  refine js_new 4 sc_unfolded.nd (jn_lst (ja1 (je_tup (Ps := [vN v, vB false]) (ja_cons (je_name 1) (ja1 je_bl))))) fun pw => ?_
  refine js_while (fun m Γ => ∃ (R : List M.Rw) (Md : List Nat) (L : List (Nat × Bool)) (pm : Addr), M.Run W (M.unf W 0 v) m R Md L ∧ R.length + m ≤ 120 ∧ Md.length + m ≤ 120 ∧ L.length + 2 * m ≤ 241 ∧ Γ = ⟨[some (webV CW CR W), some (vN v), some (vE (.ref pf)), some (vE (.ref pm)), some (vE (.ref pw)), none, none, none, none, none, none], [(pf, oL (R.map fun r => vD (vlD (M.unfV W r)))), (pm, oL (Md.map vN)), (pw, oL (L.map wtV))], []⟩) rfl
    (m0 := 2 * M.tz W v) ⟨[], [], [(v, false)], pm, M.run_all wok hv, by simp; omega, by simp; omega, by simp; omega, rfl⟩ ?_
  rintro m Γ1 ⟨R, Md, L, pm, hrun, b1, b2, b3, rfl⟩
  refine ⟨_, jt_gt (je_lenL g.fr (rdlO 2) (je_name 4)) je_int, fun hb => ?_, fun hb => ?_⟩
  · rcases M.run_inv hrun with ⟨rfl, _⟩ | ⟨m', n, M0, ps, L', rfl, rfl, rfl, hn, hps, hrun'⟩ | ⟨m', n, L', rfl, rfl, hn, hrun'⟩
    · simp at hb
    · -- ready
      have hD : (W.map vlD)[n]? = some (vlD (M.vl W n)) := by rw [List.getElem?_map, vl_at hn]; rfl
      have hp2 := ((wv_of ok wok).at_ n hn).2.1
      refine js_pop (ls := L'.map wtV) (P := wtV (n, true)) 2 (je_name 4) (jg_tup rfl (jgs_cons (jg_name 5 sc_unfolded.nd) (jgs_cons (jg_name 6 sc_unfolded.nd) jgs_nil))) ?_ (by show some (pw, oL (List.map wtV (L' ++ [_]))) = _; rw [List.map_append]; rfl)
      refine js_tg (je_ixT (d := vlD (M.vl W n)) (je_rows g (je_name 0)) (je_name 5) (at_nat hD)) (jg_tupD (ds := [dN (M.vl W n).op, dTN (M.vl W n).parts]) (jg_tup rfl (jgs_cons (jg_name 7 sc_unfolded.nd) (jgs_cons (jg_name 8 sc_unfolded.nd) jgs_nil)))) ?_
      refine js_ifLast (jt_val (k := true) (je_name 6)) (fun _ => ?_) fun z => nomatch z
      have ei : ((((M0 ++ ps).map vN).length : Nat) : Int) - ((((M.vl W n).parts.map dN).length : Nat) : Int) = ((M0.map vN).length : Nat) := by
        rw [List.length_map, List.length_map, List.length_map, List.length_append, hps]
        omega
      have cuts := cut_at (xs := M0.map vN) (ys := ps.map vN) ei
      rw [← List.map_append] at cuts
      refine js_set (P := vD (dTN ps)) 9 sc_unfolded.nd (je_tupleD (ds := ps.map dN) g.fr (je_imp (je_new (jn_slL (rdlO (ps := (M0 ++ ps).map vN) 1) (je_name 3) (jo_some (je_sub (je_lenL g.fr (rdlO (ps := (M0 ++ ps).map vN) 1) (je_name 3)) (je_lenT (ds := (M.vl W n).parts.map dN) g.fr (je_name 8)))) jo_none)) fun v K h => by
        rw [cuts.1] at h
        rw [List.map_map]
        exact h)) ?_
      refine js_new 3 sc_unfolded.nd (jn_eq (jn_slL (rdlO (ps := (M0 ++ ps).map vN) 1) (je_name 3) jo_none (jo_some (je_sub (je_lenL g.fr (rdlO (ps := (M0 ++ ps).map vN) 1) (je_name 3)) (je_lenT (ds := (M.vl W n).parts.map dN) g.fr (je_name 8))))) (congrArg oL cuts.2)) fun pm' => ?_
      refine js_forget 1 ?_
      refine js_perm [(pf, oL (R.map fun r => vD (vlD (M.unfV W r)))), (pm', oL (M0.map vN)), (pw, oL (L'.map wtV))] (List.Perm.cons _ (List.Perm.swap _ _ _)) ?_
      rw [List.length_append] at b2
      refine js_append (ls := M0.map vN) (Pe := vN R.length) 1 (je_name 3) (je_imp (je_lenL g.fr (rdlO (ps := R.map fun r => vD (vlD (M.unfV W r))) 0) (je_name 2)) fun v K h => by rw [List.length_map] at h; exact h) (by rw [List.length_map]; exact Nat.lt_of_le_of_lt (by omega : _ ≤ 120) (by decide)) ?_
      refine js_append (ls := R.map fun r => vD (vlD (M.unfV W r))) (Pe := vD (vlD (M.unfV W (n, ps)))) 0 (je_name 2) (je_tupD (ds := [dN (M.vl W n).op, dTN ps]) (ja_cons (je_name 7) (ja1 (je_name 9)))) (by rw [List.length_map]; exact Nat.lt_of_le_of_lt (by omega : _ ≤ 120) (by decide)) ?_
      refine js_nil ⟨m', _, Nat.lt_succ_self _, ⟨R ++ [(n, ps)], M0 ++ [R.length], L', pm', hrun', by rw [List.length_append]; show _ + 1 + _ ≤ _; omega, by rw [List.length_append]; show _ + 1 + _ ≤ _; omega, by rw [List.length_append] at b3; omega, rfl⟩, (by repeat' first | exact True.intro | refine ⟨fun _ _ h => h, ?_⟩), ?_, rfl⟩
      show [(pf, oL (_ ++ [_])), (pm', oL (_ ++ [_])), (pw, _)] = [(pf, oL (List.map _ (R ++ [(n, ps)]))), (pm', oL (List.map vN (M0 ++ [R.length]))), (pw, _)]
      rw [List.map_append, List.map_append]
      rfl
    · -- to be opened
      have hD : (W.map vlD)[n]? = some (vlD (M.vl W n)) := by rw [List.getElem?_map, vl_at hn]; rfl
      have hp2 := ((wv_of ok wok).at_ n hn).2.1
      rw [List.length_append] at b3
      replace b3 : L'.length + 1 + 2 * (m' + 1) ≤ 241 := b3
      refine js_pop (ls := L'.map wtV) (P := wtV (n, false)) 2 (je_name 4) (jg_tup rfl (jgs_cons (jg_name 5 sc_unfolded.nd) (jgs_cons (jg_name 6 sc_unfolded.nd) jgs_nil))) ?_ (by show some (pw, oL (List.map wtV (L' ++ [_]))) = _; rw [List.map_append]; rfl)
      refine js_tg (je_ixT (d := vlD (M.vl W n)) (je_rows g (je_name 0)) (je_name 5) (at_nat hD)) (jg_tupD (ds := [dN (M.vl W n).op, dTN (M.vl W n).parts]) (jg_tup rfl (jgs_cons (jg_name 7 sc_unfolded.nd) (jgs_cons (jg_name 8 sc_unfolded.nd) jgs_nil)))) ?_
      refine js_ifLast (jt_val (k := false) (je_name 6)) (fun z => nomatch z) fun _ => ?_
      refine js_append (ls := L'.map wtV) (Pe := wtV (n, true)) 2 (je_name 4) (je_tup (Ps := [vN n, vB true]) (ja_cons (je_name 5) (ja1 je_bl))) (by rw [List.length_map]; exact Nat.lt_of_le_of_lt (by omega : _ ≤ 241) (by decide)) ?_
      refine js_extend (qs := ((M.vl W n).parts.reverse.map fun p => (p, false)).map wtV) 2 (je_name 4) (je_imp (je_new (jn_lc [("part", 10)] (M.vl W n).parts.reverse (fun q => vN q) (fun _ => true) (fun q => wtV (q, false)) rfl sc_unfolded.nd (blkOk_by (by rfl)) (ji_imp (ji_rev (ds := (M.vl W n).parts.map dN) g.fr (je_name 8)) (by rw [← List.map_reverse, List.map_map]; rfl)) (by rw [List.length_reverse]; exact Nat.lt_of_le_of_lt hp2 (by decide)) ?_)) fun vv K h => ?_) ?_ ?_
      · intro q hq A' O v' Pc'
        exact jelt1 10 sc_unfolded.nd fun s H0 C cl fp => ⟨jts_nil, fun _ => je_tup (Ps := [vN q, vB false]) (ja_cons (je_name 10) (ja1 je_bl))⟩
      · rw [List.filter_eq_self.mpr (fun _ _ => rfl)] at h
        rw [List.map_map]
        exact h
      · rw [List.length_append, List.length_map, List.length_map, List.length_map, List.length_reverse]
        exact Nat.le_trans (by show L'.length + 1 + _ ≤ 243; omega) (by decide)
      · refine js_nil ⟨m', _, Nat.lt_succ_self _, ⟨R, Md, L' ++ [(n, true)] ++ (M.vl W n).parts.reverse.map (fun p => (p, false)), pm, hrun', by omega, by omega, by rw [List.length_append, List.length_append, List.length_map, List.length_reverse]; show L'.length + 1 + _ + _ ≤ _; omega, rfl⟩, (by repeat' first | exact True.intro | refine ⟨fun _ _ h => h, ?_⟩), ?_, rfl⟩
        show [(pf, _), (pm, _), (pw, oL (_ ++ _ ++ _))] = [(pf, _), (pm, _), (pw, oL (List.map wtV _))]
        rw [List.map_append, List.map_append]
        rfl
  · rcases M.run_inv hrun with ⟨rfl, e⟩ | ⟨m', n, M0, ps, L', _, _, rfl, _⟩ | ⟨m', n, L', _, rfl, _⟩
    · subst e
      refine js_show 2 0 rfl rfl ?_
      exact js_ret (je_make ci (hr.mono (by decide)) g.gR (M.unfW W v, none) (fun _ e => nomatch e) (ja1 (je_imp (je_name 2) fun v K h => by
        unfold M.unfW
        rw [List.map_map, List.map_map]
        exact h))) fun _ _ h => h
    · simp at hb
    · simp at hb
end
end Lk
end

section
set_option Elab.async false
set_option linter.all false
set_option maxHeartbeats 1000000
/-! Equal values laid together. -/
namespace Lk.M
section
variable {b : Bk} {w : Wb}
def foldV (w : Wb) (pl : List Nat) (i : Nat) : Vl := ⟨(vl w i).op, (vl w i).parts.map fun p => pl.getD p 0⟩
def addV (K : List Vl) (x : Vl) : List Vl := if x ∈ K then K else K ++ [x]
def foldS (w : Wb) : Nat → List Vl × List Nat
  | 0 => ([], [])
  | i + 1 => (addV (foldS w i).1 (foldV w (foldS w i).2 i), (foldS w i).2 ++ [(addV (foldS w i).1 (foldV w (foldS w i).2 i)).idxOf (foldV w (foldS w i).2 i)])
theorem addV_mem {K : List Vl} {x y : Vl} : y ∈ addV K x ↔ y = x ∨ y ∈ K := by
  unfold addV
  split
  · rename_i h
    exact ⟨.inr, fun z => z.elim (fun e => by rw [e]; exact h) id⟩
  · rw [List.mem_append, List.mem_singleton]; exact Or.comm
theorem addV_nodup {K : List Vl} {x : Vl} (h : K.Nodup) : (addV K x).Nodup := by
  unfold addV
  split
  · exact h
  · rename_i n
    rw [List.nodup_append]
    exact ⟨h, by simp, fun a ha b hb e => n (by rw [← List.mem_singleton.mp hb, ← e]; exact ha)⟩
theorem addV_idx {K : List Vl} {x y : Vl} (h : y ∈ K) : (addV K x).idxOf y = K.idxOf y := by
  unfold addV
  split
  · rfl
  · rw [List.idxOf_append, if_pos h]
theorem foldS_len (i : Nat) : (foldS w i).2.length = i := by
  induction i with
  | zero => rfl
  | succ i ih => show (_ ++ [_]).length = _; rw [List.length_append, ih]; rfl
theorem foldS_nodup (i : Nat) : (foldS w i).1.Nodup := by
  induction i with
  | zero => exact List.nodup_nil
  | succ i ih => exact addV_nodup ih
theorem foldS_klen (i : Nat) : (foldS w i).1.length ≤ i := by
  induction i with
  | zero => exact Nat.le_refl _
  | succ i ih =>
    show (addV _ _).length ≤ _
    unfold addV
    split
    · omega
    · rw [List.length_append]; show _ + 1 ≤ _; omega
/-- the places stand -/
theorem foldS_pl {i j v : Nat} (hij : i ≤ j) (hv : v < i) : (foldS w j).2.getD v 0 = (foldS w i).2.getD v 0 := by
  induction j with
  | zero => omega
  | succ j ih =>
    by_cases e : i = j + 1
    · rw [e]
    · rw [← ih (by omega)]
      show (_ ++ [_]).getD v 0 = _
      rw [List.getD_eq_getElem?_getD, List.getD_eq_getElem?_getD, List.getElem?_append_left (by rw [foldS_len]; omega)]
theorem foldS_idx {i j : Nat} (hij : i ≤ j) {y : Vl} (h : y ∈ (foldS w i).1) : y ∈ (foldS w j).1 ∧ (foldS w j).1.idxOf y = (foldS w i).1.idxOf y := by
  induction j with
  | zero => have : i = 0 := by omega
            subst this; exact ⟨h, rfl⟩
  | succ j ih =>
    by_cases e : i = j + 1
    · rw [← e]; exact ⟨h, rfl⟩
    · obtain ⟨h1, h2⟩ := ih (by omega)
      exact ⟨addV_mem.mpr (.inr h1), by rw [← h2]; exact addV_idx h1⟩
theorem foldV_eq (wok : Wok b w) {i v : Nat} (hi : i < w.length) (hv : v ≥ i) : foldV w (foldS w v).2 i = foldV w (foldS w i).2 i := by
  unfold foldV
  congr 1
  apply List.map_congr_left
  intro p hp
  exact foldS_pl hv ((wok.at_ i hi).2.2 p hp)
def foldW (w : Wb) : Wb := (foldS w w.length).1
def foldP (w : Wb) (v : Nat) : Nat := (foldS w w.length).2.getD v 0
theorem fold_at (wok : Wok b w) {v : Nat} (hv : v < w.length) : foldV w (foldS w w.length).2 v ∈ foldW w ∧ foldP w v = (foldW w).idxOf (foldV w (foldS w w.length).2 v) := by
  have e := foldV_eq wok hv (v := w.length) (by omega)
  rw [e]
  have hm : foldV w (foldS w v).2 v ∈ (foldS w (v + 1)).1 := addV_mem.mpr (.inl rfl)
  obtain ⟨h1, h2⟩ := foldS_idx (w := w) (i := v + 1) (j := w.length) hv hm
  refine ⟨h1, ?_⟩
  unfold foldP foldW
  rw [h2, foldS_pl (i := v + 1) hv (Nat.lt_succ_self v)]
  show ((foldS w v).2 ++ [_]).getD v 0 = _
  rw [List.getD_eq_getElem?_getD, List.getElem?_append_right (by rw [foldS_len]; exact Nat.le_refl _), foldS_len, Nat.sub_self]
  rfl
theorem vl_idx {K : Wb} {x : Vl} (h : x ∈ K) : vl K (K.idxOf x) = x := by
  unfold vl
  have hl : K.idxOf x < K.length := List.idxOf_lt_length_of_mem h
  rw [List.getD_eq_getElem?_getD, List.getElem?_eq_getElem hl]
  exact List.getElem_idxOf hl
theorem fold_hom (wok : Wok b w) : Hom b w (foldW w) (fun v => v < w.length) (foldP w) where
  dom := fun v hv => (let ⟨h1, h2⟩ := fold_at wok hv; ⟨hv, by rw [h2]; exact List.idxOf_lt_length_of_mem h1⟩)
  op := fun v hv => by
    obtain ⟨h1, h2⟩ := fold_at wok hv
    rw [h2, vl_idx h1]
    rfl
  parts := fun v hv => by
    obtain ⟨h1, h2⟩ := fold_at wok hv
    rw [h2, vl_idx h1]
    rfl
  cl := fun v hv p hp => by have := (wok.at_ v hv).2.2 p hp; omega
/-- each row was laid for some value, after its parts -/
theorem fold_rows (wok : Wok b w) : ∀ i, i ≤ w.length → ∀ j, j < (foldS w i).1.length → ∃ v, v < i ∧ vl (foldS w i).1 j = foldV w (foldS w v).2 v ∧ ∀ p ∈ (vl w v).parts, (foldS w v).2.getD p 0 < j := by
  intro i
  induction i with
  | zero => exact fun _ j hj => absurd hj (Nat.not_lt_zero _)
  | succ i ih =>
    intro hi j hj
    have e0 : (foldS w (i + 1)).1 = addV (foldS w i).1 (foldV w (foldS w i).2 i) := rfl
    rw [e0] at hj ⊢
    unfold addV at hj ⊢
    split at hj
    · rename_i hm
      rw [if_pos hm]
      obtain ⟨v, h1, h2, h3⟩ := ih (by omega) j hj
      exact ⟨v, by omega, h2, h3⟩
    · rename_i hm
      rw [if_neg hm]
      by_cases e : j < (foldS w i).1.length
      · obtain ⟨v, h1, h2, h3⟩ := ih (by omega) j e
        refine ⟨v, by omega, ?_, h3⟩
        rw [← h2]
        unfold vl
        rw [List.getD_eq_getElem?_getD, List.getD_eq_getElem?_getD, List.getElem?_append_left e]
      · rw [List.length_append] at hj
        have hj : j < _ + 1 := hj
        have ej : j = (foldS w i).1.length := by omega
        refine ⟨i, Nat.lt_succ_self _, ?_, fun p hp => ?_⟩
        · unfold vl
          rw [List.getD_eq_getElem?_getD, List.getElem?_append_right (by omega), ej, Nat.sub_self]
          rfl
        · have hpi := (wok.at_ i (by omega)).2.2 p hp
          have hm2 : foldV w (foldS w p).2 p ∈ (foldS w (p + 1)).1 := addV_mem.mpr (.inl rfl)
          obtain ⟨h1, h2⟩ := foldS_idx (w := w) (i := p + 1) (j := i) hpi hm2
          rw [foldS_pl (i := p + 1) hpi (Nat.lt_succ_self p)]
          have : (foldS w (p + 1)).2.getD p 0 = (foldS w (p + 1)).1.idxOf (foldV w (foldS w p).2 p) := by
            show ((foldS w p).2 ++ [_]).getD p 0 = _
            rw [List.getD_eq_getElem?_getD, List.getElem?_append_right (by rw [foldS_len]; exact Nat.le_refl _), foldS_len, Nat.sub_self]
            rfl
          rw [this, ← h2, ej]
          exact List.idxOf_lt_length_of_mem h1
theorem fold_ok (wok : Wok b w) : Wok b (foldW w) where
  len := Nat.le_trans (foldS_klen _) wok.len
  at_ := fun j hj => by
    obtain ⟨v, h1, h2, h3⟩ := fold_rows wok w.length (Nat.le_refl _) j hj
    obtain ⟨g1, g2, g3⟩ := wok.at_ v h1
    have h2 : vl (foldW w) j = _ := h2
    rw [h2]
    refine ⟨g1, by show _ = some (List.map _ _).length; rw [List.length_map]; exact g2, fun p hp => ?_⟩
    obtain ⟨q, hq, rfl⟩ := List.mem_map.mp hp
    exact h3 q hq
end
end Lk.M
end

section
set_option Elab.async false
set_option linter.all false
set_option maxRecDepth 100000
set_option maxHeartbeats 1000000
/-! folded. -/
namespace Lk
open PySem PySem.Spec L2
open PyProof.Rows hiding St
open Evl (Ex)
open M (Bk Rl Mv Vl Wb Wy)
theorem vlD_fn (x : Vl) : Fn 2 (vlD x) := Fn.tup (n := 1) (all_cons (.num _) (all_cons (dTN_fn _) all_nil))
theorem vlD_d8 (x : Vl) : (vlD x).depth ≤ 8 := Nat.le_trans (vlD_fn x).2 (by decide)
theorem vlD_inj {x y : Vl} (h : vlD x = vlD y) : x = y := by
  unfold vlD at h
  injection h with h
  injection h with h1 h
  injection h with h2 _
  have e1 := dN_inj h1
  have e2 : x.parts = y.parts := by
    unfold dTN at h2
    injection h2 with h2
    exact dNs_inj h2
  cases x; cases y
  simp only at e1 e2
  rw [e1, e2]
theorem vlD_inj' (x y : Vl) (h : vlD x = vlD y) : x = y := vlD_inj h
def kd (K : List Vl) : List (D × VP) := K.map fun x => (vlD x, vN (K.idxOf x))
theorem kd_put {K : List Vl} {x : Vl} (h : x ∉ K) : putP (kd K) (vlD x) (vN K.length) = kd (M.addV K x) := by
  unfold kd M.addV
  rw [if_neg h, putP_new (lk_out vlD_inj' h), List.map_append]
  congr 1
  · apply List.map_congr_left
    intro y hy
    rw [List.idxOf_append, if_pos hy]
  · show [(vlD x, vN K.length)] = [(vlD x, vN ((K ++ [x]).idxOf x))]
    rw [List.idxOf_append, if_neg h]
    congr 3
    simp
theorem kd_some {K : List Vl} {x : Vl} (h : x ∈ K) : lk (kd K) (vlD x) = some (vN (K.idxOf x)) := lk_at vlD_inj' h
section
variable {P : Program} {w : World} {K : PySem.W.Frag} {mg : Str → Option Value} {base : Heap} {f : Addr} {fd : FuncData} {CB CW CR : Addr}
abbrev spFolded (CW CR : Addr) : Sp := mkSp (α := Bk × Wb) (fun a _ => a.1.ok ∧ M.Wok a.1 a.2) (fun a => [webV CW CR a.2]) (fun a _ => vT [webV CW CR (M.foldW a.2), vD (dTN (M.foldS a.2 a.2.length).2)])
theorem fc_folded (g : Gk K mg CB CW CR) (ci : Fi P w K mg base 1 CR (inRaw P w CW CR)) (F : FnP K "folded" s_folded f fd) (gm : mg "folded" = some (.ref f)) : Fc P w K mg base 3 "folded" (spFolded CW CR) := by
  refine fc_of F gm sc_folded (F.bindsN fun _ _ _ _ _ _ us hl => match us, hl with | [_], _ => rfl) (fun _ => rfl) ?_
  rintro ⟨b, W⟩ Fr cdv A outer s E hr ⟨ok, wok⟩
  replace ok : b.ok := ok
  replace wok : M.Wok b W := wok
  have w200 := wok.len
  refine js_new 1 sc_folded.nd jn_dict fun pk => ?_
  refine js_new 2 sc_folded.nd (jn_lst ja_nil) fun pp => ?_
  refine js_for (fun i Γ => Γ = ⟨[some (webV CW CR W), some (vE (.ref pk)), some (vE (.ref pp)), none, none, none, none], [(pk, oX P w (kd (M.foldS W i).1)), (pp, oL ((M.foldS W i).2.map vN))], []⟩) rfl rfl
    (ji_tupD (ds := W.map vlD) (je_rows g (je_name 0))) rfl ?_ ?_
  · rintro i P' Γ1 hP rfl v1 Pc1
    rw [List.map_map, List.getElem?_map] at hP
    obtain ⟨x, e1, rfl⟩ := Option.map_eq_some_iff.mp hP
    obtain ⟨hi, e3⟩ := List.getElem?_eq_some_iff.mp e1
    have hx : x = M.vl W i := by rw [vl_at hi] at e1; exact (Option.some.inj e1).symm
    subst hx
    have hp2 := ((wv_of ok wok).at_ i hi).2
    have pl := M.foldS_len (w := W) i
    have kl := M.foldS_klen (w := W) i
    have ei : M.foldS W (i + 1) = (M.addV (M.foldS W i).1 (M.foldV W (M.foldS W i).2 i), (M.foldS W i).2 ++ [(M.addV (M.foldS W i).1 (M.foldV W (M.foldS W i).2 i)).idxOf (M.foldV W (M.foldS W i).2 i)]) := rfl
    rw [ei]
    generalize hK : (M.foldS W i).1 = Kn at kl ⊢
    generalize hL : (M.foldS W i).2 = Pl at pl ⊢
    have hval : M.foldV W Pl i = ⟨(M.vl W i).op, (M.vl W i).parts.map fun p => Pl.getD p 0⟩ := rfl
    refine ⟨_, _, jg_tupD (ds := [dN (M.vl W i).op, dTN (M.vl W i).parts]) (jg_tup rfl (jgs_cons (jg_name 3 sc_folded.nd) (jgs_cons (jg_name 4 sc_folded.nd) jgs_nil))), ?_⟩
    refine js_set (P := vD (vlD (M.foldV W Pl i))) 5 sc_folded.nd (je_tupD (ds := [dN (M.vl W i).op, dTN ((M.vl W i).parts.map fun p => Pl.getD p 0)]) (ja_cons (je_name 3) (ja1 (je_tupleD (ds := ((M.vl W i).parts.map fun p => Pl.getD p 0).map dN) g.fr (je_imp (je_new (jn_lc [("part", 6)] (M.vl W i).parts (fun q => vN q) (fun _ => true) (fun q => vN (Pl.getD q 0)) rfl sc_folded.nd (blkOk_by (by rfl)) (ji_imp (ji_tupD (ds := (M.vl W i).parts.map dN) (je_name 4)) (by rw [List.map_map]; rfl)) (Nat.lt_of_le_of_lt hp2.1 (by decide)) ?_)) fun vv K h => ?_))))) ?_
    · intro q hq A' O v' Pc'
      have hqi := hp2.2 q hq
      exact jelt1 6 sc_folded.nd fun s H0 C cl fp => ⟨jts_nil, fun _ => je_ixL (rdlO (ps := Pl.map vN) 1) (je_name 2) (je_name 6) (at_nat (by rw [List.getElem?_map, List.getD_eq_getElem?_getD, List.getElem?_eq_getElem (by omega)]; rfl))⟩
    · rw [List.filter_eq_self.mpr (fun _ _ => rfl)] at h
      rw [List.map_map, List.map_map]
      exact h
    generalize M.foldV W Pl i = x
    refine js_if (B := (· = !(lk (kd Kn) (vlD x)).isSome)) (fun Γ => Γ = ⟨[some (webV CW CR W), some (vE (.ref pk)), some (vE (.ref pp)), some (vN (M.vl W i).op), some (vD (dTN (M.vl W i).parts)), some (vD (vlD x)), none], [(pk, oX P w (kd (M.addV Kn x))), (pp, oL (Pl.map vN))], [(v1, Pc1)]⟩) (jt_notInX hr (rdxO (ps := kd Kn) 0) (je_name 5) (je_name 1) rfl (vlD_d8 x)) (fun hb => ?_) (fun hb => ?_) ?_
    · have hn : x ∉ Kn := fun hm => by rw [kd_some hm] at hb; cases hb
      refine js_put (k := vlD x) (Pv := vN Kn.length) 0 hr (je_imp (je_lenX g.fr (rdxO (ps := kd Kn) 0) (je_name 1)) fun v K h => by unfold kd at h; rw [List.length_map] at h; exact h) (je_name 1) (je_name 5) (by unfold kd; rw [List.length_map]; exact Nat.lt_of_le_of_lt (by omega : _ ≤ 200) (by decide)) ?_ rfl rfl (vlD_d8 _)
      refine js_nil ?_
      show Ct.mk _ [(pk, oX P w (putP (kd Kn) (vlD x) (vN Kn.length))), _] _ = _
      rw [kd_put hn]
      rfl
    · have hm : x ∈ Kn := Classical.byContradiction fun hn => by rw [show lk (kd Kn) (vlD x) = none from lk_out vlD_inj' hn] at hb; cases hb
      refine js_nil ?_
      unfold M.addV
      rw [if_pos hm]
      rfl
    · rintro Γ' rfl
      have hm : x ∈ M.addV Kn x := M.addV_mem.mpr (.inl rfl)
      refine js_append (ls := Pl.map vN) (Pe := vN ((M.addV Kn x).idxOf x)) 1 (je_name 2) (je_ixX hr (rdxO (ps := kd (M.addV Kn x)) 0) (je_name 1) (je_name 5) (kd_some hm) rfl (vlD_d8 x)) (by rw [List.length_map]; exact Nat.lt_of_le_of_lt (by omega : _ ≤ 200) (by decide)) ?_
      refine js_nil ⟨_, rfl, (by repeat' first | exact True.intro | refine ⟨fun _ _ h => h, ?_⟩), ?_, rfl⟩
      show [_, (pp, oL (_ ++ [_]))] = [_, (pp, oL (List.map vN (Pl ++ [_])))]
      rw [List.map_append]
      rfl
  · rintro Γ' rfl
    rw [List.length_map, List.length_map]
    refine js_show 1 0 rfl rfl ?_
    refine js_show 2 0 rfl rfl ?_
    refine js_ret (je_tup (ja_cons (je_make ci (hr.mono (by decide)) g.gR (M.foldW W, some (kd (M.foldS W W.length).1)) (fun ps e => by cases e; unfold kd; rw [List.map_map]; rfl) (ja1 (je_name 1))) (ja1 (je_tupleD (ds := (M.foldS W W.length).2.map dN) g.fr (je_imp (je_name 2) fun v K h => by rw [List.map_map]; exact h))))) fun _ _ h => h
end
end Lk
end

section
set_option Elab.async false
set_option linter.all false
set_option maxRecDepth 100000
set_option maxHeartbeats 1000000
/-! The bag: a region with a law of its own. -/
namespace Lk
open PySem PySem.Spec L2
open PyProof.Rows hiding St
open Evl (Ex)
theorem AllP.set_ {ls : List VP} {vs : List V} {K : Hp} (h : AllP ls vs K) : ∀ {m : Nat} {Pe : VP} {v : V}, Pe.p v K → AllP (ls.set m Pe) (vs.set m v) K := by
  induction h with
  | nil => exact fun _ => .nil
  | cons h t ih =>
    intro m Pe v hv
    cases m with
    | zero => exact .cons hv t
    | succ m => exact .cons h (ih hv)
section
variable {F : Fm} {X : Cx} {Γ Γ' : Ct} {p pos p2 pos' apos cpos : Pos} {e a b o i : Expr} {P Pe : VP} {n : Nat} {ls : List VP} {q : Addr} {rest : List Stmt} {PDD : PD}
/-- xs[i] = v of an own list -/
theorem js_putL {k : Int} {m : Nat} (j : Nat) (he : JE F X Γ e Pe) (ho : JE F X Γ o (vE (.ref q))) (hi : JE F X Γ i (vZ k)) (hk : ixN ls.length k = some m)
    (kk : JS F X { Γ with own := Γ.own.set j (q, oL (ls.set m Pe)) } rest PDD) (hj : Γ.own[j]? = some (q, oL ls) := by rfl)
    (ha : ∀ v, assign (.Subscript o i pos') X.env v = (do
      let ov ← holding [v] (eval o X.env)
      let iv ← holding [v, ov] (eval i X.env)
      standAt pos'
      holding [v, ov, iv] (setItem ov iv v)
      release [v, ov, iv] []) := by intro _; rfl)
    (hs : swapsWithSole [.Subscript o i pos'] e pos.line X.env = pure false := by rfl) (hw : swappedStores [.Subscript o i pos'] e X.env = pure none := by rfl) (h1 : (assignEach [.Subscript o i pos'] X.env).map (·.2) = [assign (.Subscript o i pos') X.env] := by rfl) :
    JS F X Γ (.Assign [.Subscript o i pos'] e pos :: rest) PDD :=
  js_st (ps_asg pE (pg_sub pE pE set_list ha) hs hw h1) fun σ H E g1 g2 => he σ H _ g1 fun v1 H1 s1 p1 => ho σ H1 _ (g1.go s1) fun ov H2 s2 p2 => hi σ H2 _ ((g1.go s1).go s2) fun iv H3 s3 p3 => by
    have E3 := ((g1.go s1).go s2).go s3
    cases (show ov = .ref q from p2)
    cases vD_num.mp p3
    obtain ⟨ws, d1, d2⟩ := own_at E3 hj
    have hp : Pe.p v1 (F.vw Γ H3) := Pe.mono (s2.trans s3).ex p1
    have hset := d2.set_ (m := m) hp
    exact ⟨q, ws, k, m, rfl, rfl, d1, by rw [d2.length]; exact hk, kk σ _ E (E3.setOwn (O' := oL (ls.set m Pe)) hj (fun b hb => upd_ne hb) ⟨_, upd_same, hset⟩) g2⟩
end
/-! the theory of the bag -/
def bagAt (B G : Addr) (alw : V) (K : Hp) : Prop := ∃ (sd c : Nat) (gs : List Nat), K B = some (.lst [.int sd, .int c, .ref G, alw]) ∧ K G = some (.lst (gs.map fun g => V.int (g : Nat)))
def alwOk (alw : V) : Prop := alw = .non ∨ ∃ n : Nat, alw = .int (n : Int)
def bagTh (B G : Addr) (alw : V) : Th where
  reg := fun a => a == B || a == G
  ok := fun H => B ≠ G ∧ alwOk alw ∧ bagAt B G alw H
  loc := fun {H H'} h ⟨hne, ha, sd, c, gs, h1, h2⟩ => ⟨hne, ha, sd, c, gs, by rw [h B (by simp)]; exact h1, by rw [h G (by simp)]; exact h2⟩
  dom := fun {H} ⟨hne, _, sd, c, gs, h1, h2⟩ a hr => by
    rcases (Bool.or_eq_true _ _).mp hr with z | z
    · rw [eq_of_beq z, h1]; exact fun z => nomatch z
    · rw [eq_of_beq z, h2]; exact fun z => nomatch z
/-- the bag as own things -/
def bagP (B G : Addr) (alw : V) (sd c : Nat) : OP := oL [vN sd, vN c, vE (.ref G), vE alw]
def bagO (B G : Addr) (alw : V) (sd c : Nat) (gs : List Nat) : List (Addr × OP) := [(B, bagP B G alw sd c), (G, oL (gs.map vN))]
theorem all_nats {gs : List Nat} {vs : List V} {K : Hp} (h : AllP (gs.map vN) vs K) : vs = gs.map fun g => V.int (g : Nat) := by
  induction gs generalizing vs with
  | nil => cases h; rfl
  | cons g gs ih => cases h with | cons h t => rw [ih t, vD_num.mp h]; rfl
theorem nats_all {gs : List Nat} {K : Hp} : AllP (gs.map vN) (gs.map fun g => V.int (g : Nat)) K := by
  induction gs with
  | nil => exact .nil
  | cons g gs ih => exact .cons (vD_num.mpr rfl) ih
theorem bag_at {B G : Addr} {alw : V} {sd c : Nat} {gs : List Nat} {vs ws : List V} {H K K2 : Hp} (h1 : (bagP B G alw sd c).p B H K) (h2 : (oL (gs.map vN)).p G H K2) : H B = some (.lst [.int sd, .int c, .ref G, alw]) ∧ H G = some (.lst (gs.map fun g => V.int (g : Nat))) := by
  obtain ⟨vs, a1, a2⟩ := h1
  obtain ⟨ws, b1, b2⟩ := h2
  rw [all_nats b2] at b1
  refine ⟨?_, b1⟩
  cases a2 with
  | cons x1 a2 =>
  cases a2 with
  | cons x2 a2 =>
  cases a2 with
  | cons x3 a2 =>
  cases a2 with
  | cons x4 a2 =>
  cases a2
  rw [vD_num.mp x1, vD_num.mp x2, show _ = V.ref G from x3, show _ = alw from x4] at a1
  exact a1
/-- the result is given back with the bag in order -/
def vBk (B G : Addr) (alw : V) (P : VP) : VP := ⟨fun v K => P.p v K ∧ bagAt B G alw K, fun e ⟨h, sd, c, gs, h1, h2⟩ => ⟨P.mono e h, sd, c, gs, e _ _ h1, e _ _ h2⟩⟩
section
variable {F : Fm} {X : Cx} {Γ : Ct} {e : Expr} {pos : Pos} {P : VP} {rest : List Stmt} {D : PD} {B G : Addr} {alw : V} {sd c : Nat} {gs : List Nat}
theorem js_retB (he : JE F X Γ e P) (ho : Γ.own = bagO B G alw sd c gs) (hp : ∀ v K, (vBk B G alw P).p v K → D.rt.p v K) : JS F X Γ (.Return (some e) pos :: rest) D := js_st (ps_ret pE) fun σ H E h1 h2 => he σ H _ h1 fun v H1 s p => by
  have E1 := h1.go s
  have hB := E1.own (B, bagP B G alw sd c) (by rw [ho]; exact List.mem_cons_self ..)
  have hG := E1.own (G, oL (gs.map vN)) (by rw [ho]; exact List.mem_cons_of_mem _ (List.mem_cons_self ..))
  obtain ⟨b1, b2⟩ := bag_at (vs := []) (ws := []) hB hG
  have nB : F.S0 B = false := by
    cases q : F.S0 B with
    | false => rfl
    | true => exact absurd (E1.new (B, bagP B G alw sd c) (by rw [ho]; exact List.mem_cons_self ..)) (F.dom _ q)
  have nG : F.S0 G = false := by
    cases q : F.S0 G with
    | false => rfl
    | true => exact absurd (E1.new (G, oL (gs.map vN)) (by rw [ho]; exact List.mem_cons_of_mem _ (List.mem_cons_self ..))) (F.dom _ q)
  exact h2.rt v H1 E1.step (hp v _ ⟨P.mono (hid_sub fun a q => Fm.S_or.mpr (.inl q)) p, sd, c, gs, by rw [hid_in nB]; exact b1, by rw [hid_in nG]; exact b2⟩)
end
section
variable {P : Program} {w : World} {K : PySem.W.Frag} {mg : Str → Option Value} {base : Heap} {x qual : Str} {params : Arguments} {body : List Stmt} {scope : Scope} {f : Addr} {fd : FuncData} {N ps : List Str} {k : Nat} {α : Type} {Pf : α → List VP} {R : α → VP} {pre : α → Prop}
/-- a def that changes the bag: within, the bag's parts are own things -/
theorem fc_ofB (F : FunD K x qual params body scope [] [] f fd) (gm : mg x = some (.ref f)) (S : FnScope N ps scope) (hb : Binds K fd ps []) (hl : ∀ a, (Pf a).length = ps.length) (bg : α → Addr × Addr × V)
    (hR : ∀ a v K K', (R a).p v K → (R a).p v K')
    (h : ∀ (a : α) (Fr : Fm) (cdv : Value) (A : Around) (outer : List PySem.Env) (s : Shared) (H : Hp) (E : XK) (sd c : Nat) (gs : List Nat), Room k (cxOf CX0 P w K mg base N qual scope f cdv A outer s H E).nox.A → alwOk (bg a).2.2 → pre a →
      JS Fr (cxOf CX0 P w K mg base N qual scope f cdv A outer s H E).nox ⟨startI N (Pf a), bagO (bg a).1 (bg a).2.1 (bg a).2.2 sd c gs, []⟩ body { nx := fun _ => False, rt := vBk (bg a).1 (bg a).2.1 (bg a).2.2 (R a) }) :
    Fc P w K mg base (k + 1) x (mkSp (fun a T => T = bagTh (bg a).1 (bg a).2.1 (bg a).2.2 ∧ pre a) Pf fun a _ => R a) := by
  refine ⟨f, fd, ps, F.ok S (fun vs H Q E ⟨T, S, a, _, _, _, _, h4, _⟩ => by rw [h4.length, hl]) (fun cdv A outer s H vs Q E hr ⟨T, S', a, h1, h2, h3, ⟨hT, h4⟩, h5, h6⟩ => ⟨oSs _ body, PSs.nox pSs, ?_⟩), gm, F.kp, hb⟩
  have hh := h a
  generalize bg a = t at hT hh
  obtain ⟨B, G, alw⟩ := t
  subst hT
  obtain ⟨hne, hal, sd, c, gs, hB, hG⟩ := h3
  have sB : S' B = true := h1 B (by show (B == B || B == G) = true; simp)
  have sG : S' G = true := h1 G (by show (G == B || G == G) = true; simp)
  let Fr : Fm := ⟨Th.nil, fun b => S' b && !(b == B) && !(b == G), fun b => if b = B ∨ b = G then none else H b, fun b z => (nomatch z), fun b z => by
    have z : (S' b && !(b == B) && !(b == G)) = true := z
    rw [Bool.and_eq_true, Bool.and_eq_true] at z
    have n1 : b ≠ B := fun e => by rw [e] at z; simp at z
    have n2 : b ≠ G := fun e => by rw [e] at z; simp at z
    show (if b = B ∨ b = G then none else H b) ≠ none
    rw [if_neg (fun q => q.elim n1 n2)]
    exact h2 b z.1.1⟩
  have hlen : vs.length = (Pf a).length := h5.length
  have e0 : ∀ b, b ≠ B → b ≠ G → Fr.H0 b = H b := fun b n1 n2 => if_neg (fun q => q.elim n1 n2)
  have s0 : ∀ b, b ≠ B → b ≠ G → Fr.S0 b = S' b := fun b n1 n2 => by
    show (S' b && !(b == B) && !(b == G)) = S' b
    rw [beq_eq_false_iff_ne.mpr n1, beq_eq_false_iff_ne.mpr n2, Bool.not_false, Bool.and_true, Bool.and_true]
  have sS : Fr.S (bagO B G alw sd c gs) = S' := by
    funext b
    by_cases n1 : b = B
    · rw [n1, sB]; exact Fm.S_or.mpr (.inr (List.mem_cons_self ..))
    · by_cases n2 : b = G
      · rw [n2, sG]; exact Fm.S_or.mpr (.inr (List.mem_cons_of_mem _ (List.mem_cons_self ..)))
      · cases q : S' b with
        | true => exact Fm.S_or.mpr (.inl ((s0 b n1 n2).trans q))
        | false =>
          cases z : Fr.S (bagO B G alw sd c gs) b with
          | false => rfl
          | true =>
            rcases Fm.S_or.mp z with z | z
            · rw [s0 b n1 n2, q] at z; cases z
            · rcases List.mem_cons.mp z with z | z
              · exact absurd z n1
              · exact absurd (List.mem_singleton.mp z) n2
  have := hh Fr cdv A outer s H E sd c gs hr hal h4
  refine this (start N vs) H { nx := fun _ H' => Q .non H', rt := Q } ⟨⟨fun b o e => ?_, fun b z _ => ?_, fun _ => trivial⟩, trivial, fun e he => ?_, fun e he => ?_, ?_, fun i P' e => ?_, ?_, fun e he => (nomatch he)⟩ ⟨fun Γ σ H' z Ee => z.elim, fun _ _ _ z => z.elim, fun _ _ _ z => z.elim, fun v H' st z => ?_⟩
  · have e := hid_ex _ _ _ _ e
    have n1 : b ≠ B := fun q => by rw [q, show Fr.H0 B = none from if_pos (.inl rfl)] at e; cases e
    have n2 : b ≠ G := fun q => by rw [q, show Fr.H0 G = none from if_pos (.inr rfl)] at e; cases e
    rename_i e1
    cases q : Fr.S0 b with
    | true => rw [hid_out q] at e1; cases e1
    | false => rw [hid_in q, ← e0 b n1 n2]; exact e
  · have z' : (S' b && !(b == B) && !(b == G)) = true := z
    rw [Bool.and_eq_true, Bool.and_eq_true] at z'
    have n1 : b ≠ B := fun e => by rw [e] at z'; simp at z'
    have n2 : b ≠ G := fun e => by rw [e] at z'; simp at z'
    exact (e0 b n1 n2).symm
  · rcases List.mem_cons.mp he with z | z
    · rw [z]; exact if_pos (.inl rfl)
    · rw [List.mem_singleton.mp z]; exact if_pos (.inr rfl)
  · rcases List.mem_cons.mp he with z | z
    · rw [z]
      exact ⟨_, hB, .cons (vD_num.mpr rfl) (.cons (vD_num.mpr rfl) (.cons rfl (.cons rfl .nil)))⟩
    · rw [List.mem_singleton.mp z]
      exact ⟨_, hG, nats_all⟩
  · show [B, G].Nodup
    simp [hne]
  · obtain ⟨v, g1, g2⟩ := all_start (n := N.length - (Pf a).length) h5 i P' e
    refine ⟨v, ?_, ?_⟩
    · unfold L2.start; rw [hlen]; exact g1
    · show P'.p v (hid (Fr.S (bagO B G alw sd c gs)) H)
      rw [sS]; exact g2
  · unfold L2.start startI
    rw [List.length_append, List.length_append, List.length_map, List.length_map, hlen, List.length_replicate, List.length_replicate]
  · obtain ⟨z1, sd', c', gs', k1, k2⟩ := z
    refine h6 v H' ⟨fun b o e => ?_, fun b hb hr => ?_, fun _ => ⟨hne, hal, sd', c', gs', hid_ex _ _ _ _ k1, hid_ex _ _ _ _ k2⟩⟩ (hR a _ _ _ z1)
    · cases q : S' b with
      | true => rw [hid_out q] at e; cases e
      | false =>
        rw [hid_in q] at e ⊢
        have n1 : b ≠ B := fun z => by rw [z, sB] at q; cases q
        have n2 : b ≠ G := fun z => by rw [z, sG] at q; cases q
        refine hid_ex _ _ _ _ (st.ex b o ?_)
        rw [hid_in ((s0 b n1 n2).trans q), e0 b n1 n2]
        exact e
    · have hr : (b == B || b == G) = false := hr
      rw [Bool.or_eq_false_iff] at hr
      have n1 : b ≠ B := beq_eq_false_iff_ne.mp hr.1
      have n2 : b ≠ G := beq_eq_false_iff_ne.mp hr.2
      rw [st.own b ((s0 b n1 n2).trans hb) rfl, e0 b n1 n2]
end
end Lk
end

section
set_option Elab.async false
set_option linter.all false
set_option maxRecDepth 100000
set_option maxHeartbeats 1000000
/-! _law_pick. -/
namespace Lk
open PySem PySem.Spec L2
open PyProof.Rows hiding St
open Evl (Ex)
section
variable {F : Fm} {X : Cx} {Γ : Ct} {pos pos' apos cpos : Pos} {e o : Expr} {ls : List VP} {q : Addr} {rest : List Stmt} {PDD : PD}
/-- xs.pop(0) -/
theorem js_pop0 {P0 : VP} (j : Nat) (ho : JE F X Γ o (vE (.ref q))) (he : JE F X Γ e (vZ 0)) (kk : JS F X { Γ with own := Γ.own.set j (q, oL ls) } rest PDD) (hj : Γ.own[j]? = some (q, oL (P0 :: ls)) := by rfl)
    (hbase : attributeBase o "pop" X.env (eval o X.env) = eval o X.env := by rfl) (hfew : ((backTo cpos (starEach [e] X.env)).all (fun x => !x.1) && (backToKw cpos (keywordEach [] X.env)).all (fun x => x.1.isSome) && decide ([e].length + ([] : List Keyword).length + (if ([] : List Keyword).isEmpty then 0 else 1) < 30)) = true := by rfl)
    (hline : (apos.endLine == cpos.line) = true := by rfl) (hs : starEach [e] X.env = (false, eval e X.env) :: starEach [] X.env := by rfl) (hsw : swapsWith (.Call (.Attribute o "pop" apos) [e] [] cpos) none pos.line X.env = pure false := by rfl) : JS F X Γ (.Expr (.Call (.Attribute o "pop" apos) [e] [] cpos) pos :: rest) PDD :=
  js_st (ps_expr (pe_bm PySem.F.plainAttrs_list PySem.F.slot_list_pop PySem.F.type_list_pop mt_popAt pE pA hbase hfew hline hs rfl) hsw) fun σ H E g1 g2 => ho σ H _ g1 fun x H1 s1 p1 => by
    cases (show x = .ref q from p1)
    obtain ⟨vs0, d0, _⟩ := own_at (g1.go s1) hj
    refine ⟨.inl ⟨rfl, vs0, SqL.of d0⟩, ja1 he hs σ H1 _ (g1.go s1) fun vs H2 s2 h => ?_⟩
    have E2 := (g1.go s1).go s2
    obtain ⟨ws, d1, d2⟩ := own_at E2 hj
    cases h with
    | cons a1 a2 =>
      cases a2
      cases vD_num.mp a1
      cases d2 with
      | @cons _ y _ us _ b1 b2 =>
        exact ⟨q, y :: us, 0, 0, y, rfl, rfl, d1, by decide, by decide, seqIndex_of (by decide) (by rw [List.length_cons]; omega), rfl, kk σ _ E (E2.setOwn (O' := oL ls) hj (fun b hb => upd_ne hb) ⟨_, upd_same, b2⟩) g2⟩
end
section
variable {P : Program} {w : World} {K : PySem.W.Frag} {mg : Str → Option Value} {base : Heap} {f : Addr} {fd : FuncData} {CB CW CR : Addr}
/-- a number below another -/
def vLt (n : Nat) : VP := vEx fun r : Nat => vAnd (r < n) (vN r)
theorem vLt_of {n r : Nat} (h : r < n) {v : V} {K : Hp} (hv : (vN r).p v K) : (vLt n).p v K := ⟨r, h, hv⟩
theorem vLt_any {n : Nat} {v : V} {K K' : Hp} (h : (vLt n).p v K) : (vLt n).p v K' := by
  obtain ⟨r, h1, h2⟩ := h
  exact ⟨r, h1, vD_num.mpr (vD_num.mp h2)⟩
abbrev spPick : Sp := mkSp (α := Addr × Addr × V × Nat) (fun a T => T = bagTh a.1 a.2.1 a.2.2.1 ∧ 1 ≤ a.2.2.2 ∧ a.2.2.2 ≤ 1000) (fun a => [vE (.ref a.1), vN a.2.2.2]) (fun a _ => vLt a.2.2.2)
theorem je_mod' {F : Fm} {X : Cx} {Γ : Ct} {pos : Pos} {a b : Expr} {m n : Nat} (ha : JE F X Γ a (vN m)) (hb : JE F X Γ b (vN n)) (hc : 1 ≤ n) : JE F X Γ (.BinOp a .Mod b pos) (vN (m % n)) :=
  je_eq (je_mod ha hb (by omega)) (by show vZ ((m : Int) % (n : Int)) = vZ ((m % n : Nat) : Int); rw [Int.natCast_emod])
theorem je_fdiv' {F : Fm} {X : Cx} {Γ : Ct} {pos : Pos} {a b : Expr} {m n : Nat} (ha : JE F X Γ a (vN m)) (hb : JE F X Γ b (vN n)) (hc : CDiv m n) : JE F X Γ (.BinOp a .FloorDiv b pos) (vN (m / n)) :=
  je_eq (je_fdiv ha hb hc) (by show vZ ((m : Int) / (n : Int)) = vZ ((m / n : Nat) : Int); rw [Int.natCast_ediv])
theorem je_add' {F : Fm} {X : Cx} {Γ : Ct} {pos : Pos} {a b : Expr} {m n : Nat} (ha : JE F X Γ a (vN m)) (hb : JE F X Γ b (vN n)) : JE F X Γ (.BinOp a .Add b pos) (vN (m + n)) :=
  je_eq (je_add ha hb) (by show vZ ((m : Int) + (n : Int)) = vZ ((m + n : Nat) : Int); rw [Int.natCast_add])
theorem je_mul' {F : Fm} {X : Cx} {Γ : Ct} {pos : Pos} {a b : Expr} {m n : Nat} (ha : JE F X Γ a (vN m)) (hb : JE F X Γ b (vN n)) (hc : CMul m n) : JE F X Γ (.BinOp a .Mult b pos) (vN (m * n)) :=
  je_eq (je_mul ha hb hc) (by show vZ ((m : Int) * (n : Int)) = vZ ((m * n : Nat) : Int); rw [Int.natCast_mul])
theorem ixN_zero {n : Nat} (h : 0 < n) : ixN n 0 = some 0 := by
  unfold ixN
  rw [if_pos (by decide), if_pos (by omega)]
  rfl
theorem fc__law_pick (fr : Free mg) (F : FnP K "_law_pick" s__law_pick f fd) (gm : mg "_law_pick" = some (.ref f)) : Fc P w K mg base 1 "_law_pick" spPick := by
  refine fc_ofB (Pf := fun a : Addr × Addr × V × Nat => [vE (.ref a.1), vN a.2.2.2]) F gm sc__law_pick (F.bindsN fun _ _ _ _ _ _ us hl => match us, hl with | [_, _], _ => rfl) (fun _ => rfl) (bg := fun a : Addr × Addr × V × Nat => (a.1, a.2.1, a.2.2.1)) (pre := fun a => 1 ≤ a.2.2.2 ∧ a.2.2.2 ≤ 1000) (R := fun a => vLt a.2.2.2) (fun _ _ _ _ h => vLt_any h) ?_
  rintro ⟨B, G, alw, n⟩ Fr cdv A outer s H E sd c gs hr hal ⟨hn, hn2⟩
  replace hn : 1 ≤ n := hn
  replace hn2 : n ≤ 1000 := hn2
  replace hal : alwOk alw := hal
  have big : ∀ {m k : Nat}, k < 18446744073709551616 → CMul (m : Int) (k : Int) := fun h => .inr ⟨by omega, by omega⟩
  have cdn : ∀ {g : Nat}, CDiv (g : Int) (n : Int) := ⟨by omega, by omega⟩
  rcases hal with rfl | ⟨al, rfl⟩
  · refine js_skipB (jt_notN (d := .none) (je_imp (je_ixL (rdlO (ps := [vN sd, vN c, vE (.ref G), vE .non]) 0) (je_name 0) je_int (i := 3) rfl) fun v K h => vD_none.mpr h)) rfl ?_
    refine js_putL (ls := [vN sd, vN c, vE (.ref G), vE .non]) (k := 1) (m := 1) 0 (je_add' (je_ixL (P := vN c) (rdlO (ps := [vN sd, vN c, vE (.ref G), vE .non]) 0) (je_name 0) je_int (i := 1) rfl) (je_int (i := ((1 : Nat) : Int)))) (je_name 0) je_int rfl ?_
    refine js_set (P := vE (.ref G)) 2 sc__law_pick.nd (je_ixL (rdlO (ps := [vN sd, vN (c + 1), vE (.ref G), vE .non]) 0) (je_name 0) je_int (i := 2) rfl) ?_
    cases gs with
    | nil =>
      refine js_skipB (jt_gt (je_lenL fr (rdlO (ps := []) 1) (je_name 2)) je_int) rfl ?_
      refine js_set (P := vN ((sd + 7919 * (c + 1)) * 48271 % 2147483647)) 4 sc__law_pick.nd (je_mod' (je_int1 fr (je_mul' (je_add' (je_ixL (P := vN sd) (rdlO (ps := [vN sd, vN (c + 1), vE (.ref G), vE .non]) 0) (je_name 0) je_int (i := 0) rfl) (je_mul' (je_int (i := ((7919 : Nat) : Int))) (je_ixL (P := vN (c + 1)) (rdlO (ps := [vN sd, vN (c + 1), vE (.ref G), vE .non]) 0) (je_name 0) je_int (i := 1) rfl) (.inl ⟨by decide, by decide⟩))) (je_int (i := ((48271 : Nat) : Int))) (big (by decide)))) (je_int (i := ((2147483647 : Nat) : Int))) (by decide)) ?_
      have b1 : (sd + 7919 * (c + 1)) * 48271 % 2147483647 < 2147483647 := Nat.mod_lt _ (by decide)
      generalize (sd + 7919 * (c + 1)) * 48271 % 2147483647 = m1 at b1 ⊢
      refine js_set (P := vN (m1 * (m1 / 1009 + 69621) % 2147483647)) 4 sc__law_pick.nd (je_mod' (je_int1 fr (je_mul' (je_name 4) (je_add' (je_fdiv' (je_name 4) (je_int (i := ((1009 : Nat) : Int))) ⟨by decide, by decide⟩) (je_int (i := ((69621 : Nat) : Int)))) (.inl ⟨by omega, by omega⟩))) (je_int (i := ((2147483647 : Nat) : Int))) (by decide)) ?_
      have b2 : m1 * (m1 / 1009 + 69621) % 2147483647 < 2147483647 := Nat.mod_lt _ (by decide)
      generalize m1 * (m1 / 1009 + 69621) % 2147483647 = m2 at b2 ⊢
      refine js_set (P := vN (m2 * (m2 / 2003 + 40692) % 2147483399)) 4 sc__law_pick.nd (je_mod' (je_int1 fr (je_mul' (je_name 4) (je_add' (je_fdiv' (je_name 4) (je_int (i := ((2003 : Nat) : Int))) ⟨by decide, by decide⟩) (je_int (i := ((40692 : Nat) : Int)))) (.inl ⟨by omega, by omega⟩))) (je_int (i := ((2147483399 : Nat) : Int))) (by decide)) ?_
      exact js_retB (je_mod' (je_int1 fr (je_fdiv' (je_name 4) (je_int (i := ((16 : Nat) : Int))) ⟨by decide, by decide⟩)) (je_name 1) hn) rfl fun v K h => ⟨vLt_of (Nat.mod_lt _ hn) h.1, h.2⟩
    | cons g gs =>
      refine js_if (B := (· = true)) (fun _ => False) (jt_imp (jt_gt (je_lenL fr (rdlO (ps := vN g :: gs.map vN) 1) (je_name 2)) je_int) fun b h => h.trans (by simp)) (fun _ => ?_) (fun z => nomatch z) fun _ z => z.elim
      refine js_set (P := vN (g % n)) 3 sc__law_pick.nd (je_mod' (je_int1 fr (je_ixL (P := vN g) (rdlO (ps := vN g :: gs.map vN) 1) (je_name 2) je_int (i := 0) (at_nat (n := 0) rfl))) (je_name 1) hn) ?_
      refine js_putL (ls := vN g :: gs.map vN) (k := 0) (m := 0) 1 (je_fdiv' (je_int1 fr (je_ixL (P := vN g) (rdlO (ps := vN g :: gs.map vN) 1) (je_name 2) je_int (i := 0) (at_nat (n := 0) rfl))) (je_name 1) cdn) (je_name 2) je_int (ixN_zero (by simp)) ?_
      refine js_if (B := (· = decide (dN (g / n) = dN 0))) (fun Γ => ∃ gs', Γ = ⟨[some (vE (.ref B)), some (vN n), some (vE (.ref G)), some (vN (g % n)), none], bagO B G .non sd (c + 1) gs', []⟩) (jt_eqD (d := dN (g / n)) (e := dN 0) hr (je_ixL (P := vN (g / n)) (rdlO (ps := vN (g / n) :: gs.map vN) 1) (je_name 2) je_int (i := 0) (at_nat (n := 0) rfl)) je_int) (fun _ => ?_) (fun _ => js_nil ⟨g / n :: gs, rfl⟩) ?_
      · exact js_pop0 (P0 := vN (g / n)) (ls := gs.map vN) 1 (je_name 2) je_int (js_nil ⟨gs, rfl⟩)
      · rintro Γ' ⟨gs', rfl⟩
        exact js_retB (je_name 3) rfl fun v K h => ⟨vLt_of (Nat.mod_lt _ hn) h.1, h.2⟩
  · refine js_if (B := (· = !isN (dN al))) (fun _ => False) (jt_notN (d := dN al) (je_imp (je_ixL (P := vE (.int al)) (rdlO (ps := [vN sd, vN c, vE (.ref G), vE (.int al)]) 0) (je_name 0) je_int (i := 3) rfl) fun v K h => vD_num.mpr h)) (fun _ => ?_) (fun z => nomatch z) fun _ z => z.elim
    exact js_retB (je_mod' (je_int1 fr (je_imp (je_ixL (P := vE (.int al)) (rdlO (ps := [vN sd, vN c, vE (.ref G), vE (.int al)]) 0) (je_name 0) je_int (i := 3) rfl) fun v K h => vD_num.mpr h)) (je_name 1) hn) rfl fun v K h => ⟨vLt_of (Nat.mod_lt _ hn) h.1, h.2⟩
end
end Lk
end

section
set_option Elab.async false
set_option linter.all false
set_option maxRecDepth 100000
set_option maxHeartbeats 1000000
/-! _law_bag, the region. -/
namespace Lk
open PySem PySem.Spec L2
open PyProof.Rows hiding St
open Evl (Ex)
/-- a new bag -/
def vBag (H0 : Hp) : VP := ⟨fun v K => ∃ (B G : Addr) (alw : V), v = .ref B ∧ H0 B = none ∧ H0 G = none ∧ B ≠ G ∧ alwOk alw ∧ bagAt B G alw K,
  fun e ⟨B, G, alw, h1, h2, h3, h4, h5, sd, c, gs, h6, h7⟩ => ⟨B, G, alw, h1, h2, h3, h4, h5, sd, c, gs, e _ _ h6, e _ _ h7⟩⟩
section
variable {F : Fm} {X : Cx} {Γ : Ct} {rest : List Stmt} {D : PD}
/-- the bag becomes a region -/
theorem js_region (n : Nat) (hi : Γ.imm[n]? = some (some (vBag F.H0))) (ho : Γ.own = [])
    (k : ∀ (F' : Fm) (B G : Addr) (alw : V), F'.T = bagTh B G alw → JS F' X ⟨(List.replicate Γ.imm.length none).set n (some (vE (.ref B))), [], []⟩ rest { nx := fun _ => False, rt := D.rt }) (hT : F.T = Th.nil)
    (hR : ∀ v K K', D.rt.p v K → D.rt.p v K') : JS F X Γ rest D := fun σ H E h1 h2 => by
  obtain ⟨v, hv, B, G, alw, rfl, hB0, hG0, hne, hal, hbag⟩ := h1.imm n _ hi
  have hS : F.S Γ.own = F.S0 := by
    funext b
    rw [ho]
    show (F.S0 b || false) = F.S0 b
    exact Bool.or_false _
  have hbagH : bagAt B G alw H := (let ⟨sd, c, gs, a1, a2⟩ := hbag; ⟨sd, c, gs, hid_ex _ _ _ _ a1, hid_ex _ _ _ _ a2⟩)
  have hBH : H B ≠ none := (let ⟨_, _, _, a1, _⟩ := hbagH; by rw [a1]; exact fun z => nomatch z)
  have hGH : H G ≠ none := (let ⟨_, _, _, _, a2⟩ := hbagH; by rw [a2]; exact fun z => nomatch z)
  let F' : Fm := ⟨bagTh B G alw, fun b => F.S0 b || (b == B || b == G), H, fun b z => by
    show (F.S0 b || (b == B || b == G)) = true
    rw [show (b == B || b == G) = true from z, Bool.or_true], fun b z => by
    rcases (Bool.or_eq_true _ _).mp z with z | z
    · exact h1.hdom (Fm.S_or.mpr (.inl z))
    · rcases (Bool.or_eq_true _ _).mp z with z | z
      · rw [eq_of_beq z]; exact hBH
      · rw [eq_of_beq z]; exact hGH⟩
  have back : ∀ {H' : Hp}, Step F'.T F'.S0 F'.H0 H' → Step F.T F.S0 F.H0 H' := fun {H'} st => by
    refine ⟨fun b o e => ?_, fun b hb _ => ?_, fun _ => by rw [hT]; trivial⟩
    · have e1 : F.H0 b = some o := hid_ex _ _ _ _ e
      have n1 : b ≠ B := fun q => by rw [q, hB0] at e1; cases e1
      have n2 : b ≠ G := fun q => by rw [q, hG0] at e1; cases e1
      have hb : F.S0 b = false := by
        cases q : F.S0 b with
        | false => rfl
        | true => rw [hid_out q] at e; cases e
      have hbH := h1.step.ex b o e
      rw [hid_in hb] at hbH ⊢
      have hb' : F'.S0 b = false := by
        show (F.S0 b || (b == B || b == G)) = false
        rw [hb, beq_eq_false_iff_ne.mpr n1, beq_eq_false_iff_ne.mpr n2]; rfl
      have := st.ex b o (by rw [hid_in hb']; exact hbH)
      exact hid_ex _ _ _ _ this
    · have n1 : b ≠ B := fun e => by rw [e] at hb; exact F.dom _ hb hB0
      have n2 : b ≠ G := fun e => by rw [e] at hb; exact F.dom _ hb hG0
      have a1 := st.own b (by show (F.S0 b || _) = true; rw [hb]; rfl) (by
        show (b == B || b == G) = false
        rw [beq_eq_false_iff_ne.mpr n1, beq_eq_false_iff_ne.mpr n2]; rfl)
      exact a1.trans (h1.step.own b hb (by rw [hT]; rfl))
  have hl : n < Γ.imm.length := (List.getElem?_eq_some_iff.mp hi).1
  refine k F' B G alw rfl σ H E ⟨Step.refl _ _ _, ⟨hne, hal, hbagH⟩, fun e he => (nomatch he), fun e he => (nomatch he), List.nodup_nil, fun i P e => ?_, ?_, fun e he => (nomatch he)⟩ ⟨fun _ _ _ z => z.elim, fun _ _ _ z => z.elim, fun _ _ _ z => z.elim, fun v H' st z => h2.rt v H' (back st) (hR _ _ _ z)⟩
  · rw [List.getElem?_set] at e
    split at e
    · rename_i hni
      subst hni
      rw [List.length_replicate, if_pos hl] at e
      cases e
      exact ⟨_, hv, rfl⟩
    · rw [List.getElem?_replicate] at e
      split at e <;> cases e
  · rw [List.length_set, List.length_replicate]; exact h1.len
end
end Lk
end

section
set_option Elab.async false
set_option linter.all false
set_option maxRecDepth 100000
set_option maxHeartbeats 1000000
/-! The script: a list of whole numbers, tracked or not. -/
namespace Lk
open PySem PySem.Spec L2
open PyProof.Rows hiding St
open Evl (Ex)
theorem Rd.mono {H H' : Hp} {a : Addr} {u : HO} (e : Ex H H') (h : Rd H a u) : Rd H' a u := by
  rcases h with h | ⟨o, h⟩
  · exact .inl (e a _ h)
  · exact .inr ⟨o, e a _ h⟩
theorem SqL.mono {K : PySem.W.Frag} {H H' : Hp} {a : Addr} {xs : List V} (e : Ex H H') (h : SqL K H a xs) : SqL K H' a xs := by
  rcases h with h | h
  · exact .inl (Rd.mono e h)
  · exact .inr h
def vS (K : PySem.W.Frag) (is : List Int) : VP := ⟨fun v H => ∃ a, v = .ref a ∧ SqL K H a (is.map V.int), fun e ⟨a, h1, h2⟩ => ⟨a, h1, SqL.mono e h2⟩⟩
theorem ints_all {is : List Int} {K : Hp} : AllP (is.map vZ) (is.map V.int) K := by
  induction is with
  | nil => exact .nil
  | cons i is ih => exact .cons (vD_num.mpr rfl) ih
section
variable {F : Fm} {X : Cx} {Γ : Ct} {pos p p2 : Pos} {a e tg : Expr} {lo hi : Option Expr} {i j : Option Int} {is : List Int}
theorem je_lenS (hf : Free X.mg) (he : JE F X Γ e (vS X.K is)) (hg : Gl X "len" := by rfl) (hs : starEach [e] X.env = (false, eval e X.env) :: starEach [] X.env := by rfl) : JE F X Γ (.Call (.Name "len" p) [e] [] pos) (vN is.length) :=
  je_callB call_len_seq (ja1 he hs) (fun σ H xs Q E h k => by
    cases h with | cons h1 h2 => cases h2; obtain ⟨q, rfl, hq⟩ := h1; exact ⟨q, _, rfl, .inl (SqL.mono (hid_ex _ _) hq), kt_here k (vD_num.mpr (by rw [List.length_map]))⟩) (hf _ (by decide)) boot_len hg (he := hs)
theorem jn_slS (ha : JE F X Γ a (vS X.K is)) (h1 : JO F X Γ lo i) (h2 : JO F X Γ hi j) : JN F X Γ (.Subscript a (.Slice lo hi none p2) pos) (oL (cutD (is.map vZ) i j)) :=
  jn_of (pe_slice sl_list pE pO pO) fun σ H Q E k => ha σ H _ E fun v H1 s1 hp => h1 σ H1 _ (E.go s1) fun H2 s2 => h2 σ H2 _ ((E.go s1).go s2) fun H3 s3 => by
    have E3 := ((E.go s1).go s2).go s3
    obtain ⟨q, e1, e2⟩ := (vS X.K is).mono (s2.trans s3).ex hp
    exact ⟨q, _, e1, SqL.mono (hid_ex _ _) e2, fun r hr => k r _ (((s1.trans s2).trans s3).trans (step_new E3 hr)) (none_back E ((s1.trans s2).trans s3) hr) ⟨_, upd_same, cut_all ints_all i j⟩⟩
theorem ji_S (he : JE F X Γ e (vS X.K is)) : JI F X Γ tg e (is.map vZ) := fun σ H R E k => oI_of (pi_list pE) (he σ H _ E fun v H1 s ⟨a, h1, h2⟩ =>
  ⟨a, h1, ⟨_, SqL.mono (hid_ex _ _) h2⟩, k _ v ⟨fun _ K' => SqL X.K K' a (is.map V.int), fun e h => SqL.mono e h⟩ H1 s h2
    ⟨fun i H hi h => by
      rw [List.length_map] at hi
      exact ⟨_, .int is[i], h, by rw [List.getElem?_map, List.getElem?_eq_getElem hi]; rfl⟩, fun H h => ⟨_, h, by rw [List.length_map, List.length_map]; exact Nat.le_refl _⟩, fun i H x H' S h hS hy P hP => by
      obtain ⟨rfl, hx⟩ := hy
      obtain ⟨y, hy, py⟩ := (ints_all (is := is) (K := hid S H')).get hP
      have := hx _ (SqL.mono (hid_ex _ _) h)
      rw [hy] at this
      cases this
      exact ⟨Ex.refl _, py⟩⟩⟩)
end
end Lk
end

section
set_option Elab.async false
set_option linter.all false
set_option maxRecDepth 100000
set_option maxHeartbeats 1000000
/-! _law_bag. -/
namespace Lk
open PySem PySem.Spec L2
open PyProof.Rows hiding St
open Evl (Ex)
section
variable {F : Fm} {X : Cx} {Γ : Ct} {e : Expr} {pos : Pos} {rest : List Stmt} {D : PD}
/-- a new thing is given back, and another that it holds -/
theorem js_retNO {O OG : OP} {G : Addr} (he : JN F X Γ e O) (hG : (G, OG) ∈ Γ.own) (hp : ∀ (p : Addr) (K : Hp), F.H0 p = none → F.H0 G = none → p ≠ G → (∃ K', Ex K' K ∧ O.p p K K') → (∃ K', Ex K' K ∧ OG.p G K K') → D.rt.p (.ref p) K) : JS F X Γ (.Return (some e) pos :: rest) D := js_st (ps_ret pE) fun σ H E h1 h2 => he σ H _ h1 fun p H1 s hn ho => by
  have E2 := h1.addOwn hn s ho
  have hid0 : ∀ {b : Addr}, F.H0 b = none → F.S0 b = false := fun {b} q => by
    cases z : F.S0 b with
    | false => rfl
    | true => exact absurd q (F.dom _ z)
  have np := E2.new (p, O) (List.mem_append_right _ (List.mem_singleton_self _))
  have nG := E2.new (G, OG) (List.mem_append_left _ hG)
  have oG := E2.own (G, OG) (List.mem_append_left _ hG)
  have ne : p ≠ G := fun q => by
    have nd := E2.nd
    rw [List.map_append, List.nodup_append] at nd
    exact nd.2.2 G (List.mem_map_of_mem hG) p (by simp) q.symm
  have sub : Ex (hid (F.S (Γ.own ++ [(p, O)])) H1) (hid F.S0 H1) := hid_sub fun a q => Fm.S_or.mpr (.inl q)
  exact h2.rt _ H1 E2.step (hp p _ np nG ne ⟨hid (F.S (Γ.own ++ [(p, O)])) H1, sub, O.st (hid_in (hid0 np)) (Ex.refl _) ho⟩ ⟨hid (F.S (Γ.own ++ [(p, O)])) H1, sub, OG.st (hid_in (hid0 nG)) (Ex.refl _) oG⟩)
end
section
variable {P : Program} {w : World} {K : PySem.W.Frag} {mg : Str → Option Value} {base : Heap} {f : Addr} {fd : FuncData} {CB CW CR : Addr}
abbrev spBag (K : PySem.W.Frag) : Sp := mkSp (α := List Int) (fun is _ => is.length < sizeLine) (fun is => [vS K is]) (fun _ H => vBag H)
theorem fc__law_bag (fr : Free mg) (F : FnP K "_law_bag" s__law_bag f fd) (gm : mg "_law_bag" = some (.ref f)) : Fc P w K mg base 1 "_law_bag" (spBag K) := by
  refine fc_of F gm sc__law_bag (F.bindsN fun _ _ _ _ _ _ us hl => match us, hl with | [_], _ => rfl) (fun _ => rfl) ?_
  intro is Fr cdv A outer s E hr hl
  replace hl : is.length < sizeLine := hl
  have hl2 : is.length < 1000000000000 := Nat.lt_of_lt_of_le hl (by decide)
  refine js_set (P := vN (29 + is.length)) 1 sc__law_bag.nd (je_add' (je_int (i := ((29 : Nat) : Int))) (je_lenS fr (je_name 0))) ?_
  have cut63 : cutD (is.map vZ) none (some 63) = (is.take 63).map vZ := by
    unfold cutD
    rw [show (some (63 : Int)) = some ((63 : Nat) : Int) from rfl, HT.sIx_none, HT.sIx_nat, List.drop_zero, Nat.sub_zero, List.map_take]
    rw [List.take_eq_take_min (i := 63), Nat.min_comm]
  refine js_for (fun i Γ => ∃ sd : Nat, sd < 1000000000029 ∧ Γ = ⟨[some (vS K is), some (vN sd), none, none, none], [], []⟩) rfl rfl
    (ji_imp (ji_lst (je_new (jn_slS (je_name 0) jo_none (jo_some (je_int (i := 63)))))) cut63) ⟨_, by omega, rfl⟩ ?_ ?_
  · rintro i P' Γ1 hP ⟨sd, hsd, rfl⟩ v1 Pc1
    rw [List.getElem?_map] at hP
    obtain ⟨x, e1, rfl⟩ := Option.map_eq_some_iff.mp hP
    refine ⟨_, _, jg_name 2 sc__law_bag.nd, ?_⟩
    have ex : (vZ (x % 1000003)) = vN (x % 1000003).toNat := by
      show vZ _ = vZ _
      rw [Int.toNat_of_nonneg (Int.emod_nonneg _ (by decide))]
    refine js_set (P := vN ((sd * 69621 + (x % 1000003).toNat + 7) % 2147483647)) 1 sc__law_bag.nd (je_mod' (je_int1 fr (je_add' (je_add' (je_mul' (je_name 1) (je_int (i := ((69621 : Nat) : Int))) (.inr ⟨by decide, by decide⟩)) (je_eq (je_mod (je_int1 fr (je_name 2)) (je_int (i := 1000003)) (by decide)) ex)) (je_int (i := ((7 : Nat) : Int))))) (je_int (i := ((2147483647 : Nat) : Int))) (by decide)) ?_
    exact js_nil ⟨_, ⟨_, Nat.lt_of_lt_of_le (Nat.mod_lt _ (show 0 < 2147483647 by decide)) (show 2147483647 ≤ 1000000000029 by decide), rfl⟩, (by repeat' first | exact True.intro | refine ⟨fun _ _ h => h, ?_⟩), rfl, rfl⟩
  · rintro Γ' ⟨sd, hsd, rfl⟩
    refine js_setLc 3 [("_law_cell", 2)] (is.take 63) (fun x => vZ x) (fun x => decide ((1000000000000000000 : Int) ≤ (x.natAbs : Int))) (fun x => vN x.natAbs) rfl sc__law_bag.nd (blkOk_by (by rfl))
      (ji_imp (ji_lst (je_new (jn_slS (je_name 0) jo_none (jo_some (je_int (i := 63)))))) cut63) (Nat.lt_of_le_of_lt (List.length_take_le _ _) (by decide)) ?_ (fun pg => ?_) (sw_true rfl rfl rfl rfl)
    · intro x hx A' O v' Pc'
      exact jelt1 2 sc__law_bag.nd fun s H0 C cl fp => ⟨jts_one (jt_ge (je_abs fr (je_int1 fr (je_name 2))) (je_pow (i := 10) (j := 18) je_int je_int ⟨by decide, by decide, by decide⟩)), fun _ => je_abs fr (je_int1 fr (je_name 2))⟩
    obtain ⟨gs, hgs⟩ : ∃ gs : List Nat, ((is.take 63).filter fun x => decide ((1000000000000000000 : Int) ≤ (x.natAbs : Int))).map (fun x => vN x.natAbs) = gs.map vN := ⟨((is.take 63).filter fun x => decide ((1000000000000000000 : Int) ≤ (x.natAbs : Int))).map Int.natAbs, by rw [List.map_map]; rfl⟩
    rw [hgs]
    refine js_set (P := vE .non) 4 sc__law_bag.nd (je_imp je_none fun v K h => vD_none.mp h) ?_
    refine js_if (B := fun _ => True) (fun Γ => ∃ alw, alwOk alw ∧ ∃ c, Γ = ⟨[some (vS K is), some (vN sd), c, some (vE (.ref pg)), some (vE alw)], [(pg, oL (gs.map vN))], []⟩) (jt_imp (jt_w (jw_and (k := decide (((is.length : Nat) : Int) < 2)) (jt_lt (je_lenS fr (je_name 0)) je_int) fun _ => jw_and1 (jt_eqD (d := dN (gs.map vN).length) (e := dN 0) hr (je_lenL fr (rdlO (ps := gs.map vN) 0) (je_name 3)) je_int))) fun _ _ => trivial) (fun _ => ?_) (fun _ => js_nil ⟨.non, .inl rfl, _, rfl⟩) ?_
    · refine js_set (P := vE (.int (is.sum.natAbs : Int))) 4 sc__law_bag.nd (je_imp (je_abs fr (je_sumI (ns := is) rfl fr (je_imp (je_new (jn_lc [("_law_cell", 2)] is (fun x => vZ x) (fun _ => true) (fun x => vZ x) rfl sc__law_bag.nd (blkOk_by (by rfl)) (ji_S (je_name 0)) hl ?_)) fun v K h => ?_))) fun v K h => vD_num.mp h) ?_
      · intro x hx A' O v' Pc'
        exact jelt1 2 sc__law_bag.nd fun s H0 C cl fp => ⟨jts_nil, fun _ => je_int1 fr (je_name 2)⟩
      · rw [List.filter_eq_self.mpr (fun _ _ => rfl)] at h
        exact h
      · exact js_nil ⟨_, .inr ⟨_, rfl⟩, _, rfl⟩
    · rintro Γ' ⟨alw, hal, c, rfl⟩
      refine js_retNO (O := oL [vN sd, vN 1, vE (.ref pg), vE alw]) (OG := oL (gs.map vN)) (G := pg) (jn_lst (ja_cons (je_name 1) (ja_cons je_int (ja_cons (je_name 3) (ja1 (je_name 4)))))) (List.mem_singleton_self _) fun p K hp hG ne ⟨K1, x1, o1⟩ ⟨K2, x2, o2⟩ => ?_
      obtain ⟨b1, b2⟩ := bag_at (vs := []) (ws := []) (sd := sd) (c := 1) o1 o2
      exact ⟨p, pg, alw, rfl, hp, hG, ne, hal, sd, 1, gs, b1, b2⟩
end
end Lk
end

section
set_option Elab.async false
set_option linter.all false
set_option maxRecDepth 100000
set_option maxHeartbeats 1000000
/-! Values that are only known to be some. -/
namespace Lk
open PySem PySem.Spec L2
open PyProof.Rows hiding St
open Evl (Ex)
section
variable {F : Fm} {X : Cx} {Γ : Ct} {e a b : Expr} {pos : Pos} {rest body : List Stmt} {D : PD} {P Pa Pb : VP} {tg iter : Expr}
theorem g2_exL {α : Sort _} {f : α → VP} {r : R2} (h : ∀ a, G2 F Γ r (f a) Pb P) : G2 F Γ r (vEx f) Pb P := fun σ H x y Q E ⟨a, hx⟩ hy k => h a σ H x y Q E hx hy k
theorem g2_ltL {n : Nat} {r : R2} (h : ∀ m, m < n → G2 F Γ r (vN m) Pb P) : G2 F Γ r (vLt n) Pb P := fun σ H x y Q E ⟨m, hm, hx⟩ hy k => h m hm σ H x y Q E hx hy k
theorem g2_ltR {n : Nat} {r : R2} (h : ∀ m, m < n → G2 F Γ r Pa (vN m) P) : G2 F Γ r Pa (vLt n) P := fun σ H x y Q E hx ⟨m, hm, hy⟩ k => h m hm σ H x y Q E hx hy k
def vBool : VP := vEx fun b : Bool => vB b
theorem rt_any {t : TE} (h : RE F Γ t vBool) : RT F Γ (tTest t) (fun _ => True) := fun σ H Q E q => h σ H _ E fun v H' s ⟨k, p⟩ => ⟨k, p, q k H' s trivial⟩
theorem jt_cmpA {op : CmpOp} {r : R2} (ho : OpR X (compareOp op) r) (ha : JE F X Γ a Pa) (hb : JE F X Γ b Pb) (g : G2 F Γ r Pa Pb vBool) (hm : behindInMarks op b = false := by first | exact nomark _ | rfl) : JT F X Γ (.Compare a [op] [b] pos) (fun _ => True) :=
  jt_of (pt_cmpR ho pE pE hm) (rt_any (re_op ha hb g))
/-- what is some thing, is one -/
theorem js_some {α : Sort _} {f : α → VP} (i : Nat) (hi : Γ.imm[i]? = some (some (vEx f))) (k : ∀ a, JS F X { Γ with imm := Γ.imm.set i (some (f a)) } rest D) : JS F X Γ rest D := fun σ H E h1 h2 => by
  obtain ⟨v, hv, a, hp⟩ := h1.imm i _ hi
  have := h1.put (i := i) (P := f a) (v := v) hp
  have hs : σ.set i (some v) = σ := by
    apply List.ext_getElem?
    intro k
    by_cases z : i = k
    · subst z
      rw [List.getElem?_set_self (List.getElem?_eq_some_iff.mp hv).1, hv]
    · rw [List.getElem?_set_ne z]
  rw [hs] at this
  exact k a σ H E this h2
theorem js_fact {c : Prop} (i : Nat) (hi : Γ.imm[i]? = some (some (vAnd c P))) (k : c → JS F X { Γ with imm := Γ.imm.set i (some P) } rest D) : JS F X Γ rest D := fun σ H E h1 h2 => by
  obtain ⟨v, hv, hc, hp⟩ := h1.imm i _ hi
  have := h1.put (i := i) (P := P) (v := v) hp
  have hs : σ.set i (some v) = σ := by
    apply List.ext_getElem?
    intro k
    by_cases z : i = k
    · subst z
      rw [List.getElem?_set_self (List.getElem?_eq_some_iff.mp hv).1, hv]
    · rw [List.getElem?_set_ne z]
  rw [hs] at this
  exact k hc σ H E this h2
def JIE {α : Sort _} (F : Fm) (X : Cx) (Γ : Ct) (tg iter : Expr) (Ps : α → List VP) : Prop := ∀ (σ : L2.St) (H : Hp) (R : It → Hp → Prop), Env F Γ σ H → (∀ a J v Pc H', Step F.T (F.S Γ.own) H H' → Pc.p v (F.vw Γ H') → WalkP J (Ps a) v Pc → R J H') → oI X tg iter σ H R
theorem js_forE {α : Sort _} {Ps : α → List VP} (G : Nat → Ct → Prop) (hp : X.xe = fun _ _ => False) (hc : X.calm = true) (hi : JIE F X Γ tg iter Ps) (h0 : G 0 Γ)
    (hb : ∀ al i P Γ1, (Ps al)[i]? = some P → G i Γ1 → ∀ v Pc, ∃ Γ2 js, JG F X (Γ1.fact v Pc) tg js P Γ2 ∧ JS F X Γ2 body { nx := fun Γ3 => ∃ Γ4, G (i + 1) Γ4 ∧ Wk Γ3 Γ4 v Pc, rt := D.rt })
    (hr : ∀ al Γ', G (Ps al).length Γ' → JS F X Γ' rest D) (hs : ∀ x, foldedSetIterable iter X.env x = pure x := by intro _; rfl) : JS F X Γ (.For tg iter body [] pos :: rest) D :=
  js_st (ps_for (by rw [hp]; exact PassesOwn.never) hc pI pG pSs hs) fun σ H E h1 h2 => hi σ H _ h1 fun al J v Pc H1 s hv wk => by
    refine ⟨fun i m σ H => i + m = (Ps al).length ∧ ∃ Γ', G i Γ' ∧ Env F (Γ'.fact v Pc) σ H, ⟨(Ps al).length, Nat.zero_add _, Γ, h0, (h1.go s).fact hv⟩, fun i m σ H ⟨em, Γ1, g1, E1⟩ => ?_⟩
    have hpc : Pc.p v (hid (F.S Γ1.own) H) := E1.fx (v, Pc) (List.mem_cons_self ..)
    have hpH : Pc.p v H := Pc.mono (hid_ex _ _) hpc
    cases m with
    | zero =>
      have : i = (Ps al).length := by omega
      subst this
      exact .inl ⟨wk.stop H hpH, hr al Γ1 g1 σ H E (E1.unfact fun e he => List.mem_cons_of_mem _ he) h2⟩
    | succ m =>
      have hi' : i < (Ps al).length := by omega
      refine .inr ⟨wk.go i H hi' hpH, fun σ H => ∃ Γ', G (i + 1) Γ' ∧ Env F (Γ'.fact v Pc) σ H, fun σ' H' h => ⟨m, Nat.lt_succ_self _, by omega, h⟩, fun x H' hy => ?_⟩
      obtain ⟨ex, hx⟩ := wk.yld i H x H' _ hpc (fun a q => E1.hdom q) hy _ (List.getElem?_eq_getElem hi')
      obtain ⟨Γ2, js, hg, hb⟩ := hb al i _ Γ1 (List.getElem?_eq_getElem hi') g1 v Pc
      refine hg σ H' x _ (E1.go (E1.ex ex)) hx fun σ2 E2 _ => hb σ2 H' _ E2 ⟨fun Γ3 σ3 H3 ⟨Γ4, g4, w⟩ E3 => ⟨Γ4, g4, w.env E3⟩, fun _ _ _ h => h.elim, fun _ _ _ h => h.elim, h2.rt⟩
theorem lts_nums {α : Type _} {f : α → Nat} : ∀ {xs : List α} {vs : List V} {K : Hp}, AllP (xs.map fun x => vLt (f x)) vs K → ∃ ns : List Nat, ns.length = xs.length ∧ (∀ (i : Nat) (n : Nat) (x : α), ns[i]? = some n → xs[i]? = some x → n < f x) ∧ AllP (ns.map vN) vs K
  | [], _, _, .nil => ⟨[], rfl, fun _ _ _ e => (nomatch e), .nil⟩
  | x :: xs, _, _, .cons ⟨n, hn, h⟩ t => by
    obtain ⟨ns, h1, h2, h3⟩ := lts_nums t
    refine ⟨n :: ns, by rw [List.length_cons, List.length_cons, h1], fun i m y e1 e2 => ?_, .cons h h3⟩
    cases i with
    | zero => cases e1; cases e2; exact hn
    | succ i => exact h2 i m y e1 e2
/-- numbers below others, in a tuple -/
def vTl (l : Nat) (q : Nat → Nat → Prop) : VP := vEx fun ns : List Nat => vAnd (ns.length = l ∧ ∀ (i n : Nat), ns[i]? = some n → q i n) (vD (dTN ns))
theorem vT_lts {α : Type _} {f : α → Nat} {xs : List α} {q : Nat → Nat → Prop} (hq : ∀ (i n : Nat) (x : α), xs[i]? = some x → n < f x → q i n) {v : V} {K : Hp} (h : (vT (xs.map fun x => vLt (f x))).p v K) : (vTl xs.length q).p v K := by
  obtain ⟨a, vs, e, g, hv⟩ := h
  obtain ⟨ns, h1, h2, h3⟩ := lts_nums hv
  refine ⟨ns, ⟨h1, fun i n hn => ?_⟩, ?_⟩
  · have hi : i < xs.length := by rw [← h1]; exact (List.getElem?_eq_some_iff.mp hn).1
    exact hq i n xs[i] (List.getElem?_eq_getElem hi) (h2 i n _ hn (List.getElem?_eq_getElem hi))
  · exact im_tup.mpr ⟨a, vs, e, g, allP_D.mp (by rw [List.map_map]; exact h3)⟩
end
end Lk
end

section
set_option Elab.async false
set_option linter.all false
set_option maxRecDepth 100000
set_option maxHeartbeats 1000000
/-! What a pick gives, in statements; _law_some, _law_values. -/
namespace Lk
open PySem PySem.Spec L2
open PyProof.Rows hiding St
open Evl (Ex)
open M (Bk Rl Mv Vl Wb Wy)
/-- a number from lo on, below hi -/
def vRg (lo hi : Nat) : VP := vEx fun r : Nat => vAnd (lo ≤ r ∧ r < hi) (vN r)
section
variable {F : Fm} {X : Cx} {Γ : Ct} {pos pos' apos cpos p0 : Pos} {e o i a b : Expr} {Pa Pb P : VP} {p : Addr} {n : Nat} {rest : List Stmt} {D : PD}
theorem vLt_rg {n : Nat} {v : V} {K : Hp} (h : (vLt n).p v K) : (vRg 0 n).p v K := (let ⟨r, h1, h2⟩ := h; ⟨r, ⟨Nat.zero_le _, h1⟩, h2⟩)
theorem vRg_lt {m n : Nat} {v : V} {K : Hp} (h : (vRg m n).p v K) : (vLt n).p v K := (let ⟨r, h1, h2⟩ := h; ⟨r, h1.2, h2⟩)
theorem vRg_mono {m n m' n' : Nat} (h1 : m' ≤ m) (h2 : n ≤ n') {v : V} {K : Hp} (h : (vRg m n).p v K) : (vRg m' n').p v K := (let ⟨r, a, b⟩ := h; ⟨r, ⟨Nat.le_trans h1 a.1, Nat.lt_of_lt_of_le a.2 h2⟩, b⟩)
theorem je_addLt {k n : Nat} (ha : JE F X Γ a (vN k)) (hb : JE F X Γ b (vLt n)) : JE F X Γ (.BinOp a .Add b pos) (vRg k (k + n)) :=
  je_bin op_add ha hb (g2_ltR fun m hm => g2_I0 fun _ => ⟨k + m, ⟨Nat.le_add_right _ _, Nat.add_lt_add_left hm _⟩, vD_num.mpr (by rw [Int.natCast_add])⟩)
theorem js_setQ {α : Sort _} {c : α → Prop} {f : α → VP} {x : Str} (n : Nat) (hN : X.N.Nodup) (he : JE F X Γ e (vEx fun a => vAnd (c a) (f a))) (k : ∀ a, c a → JS F X (Γ.put n (f a)) rest D) (hi : X.N[n]? = some x := by rfl) (hx : Loc X.env.scope x := by first | exact .inl rfl | exact .inr rfl)
    (hs : swapsWith e (some (.Name x pos')) pos.line X.env = pure false := by rfl) (hf : X.fn x = true ∨ X.env.scope.names.lookup x = some .local := by first | exact .inl rfl | exact .inr rfl) : JS F X Γ (.Assign [.Name x pos'] e pos :: rest) D :=
  js_st (ps_set hN hi hx pE hs hf) fun σ H E h1 h2 => he σ H _ h1 fun v H1 s ⟨a, hc, p⟩ => k a hc _ _ _ ((h1.go s).put p) h2
theorem js_openL {α : Sort _} {c : α → Prop} {f : α → VP} {ls : List VP} (j : Nat) (hj : Γ.own[j]? = some (p, oL (ls ++ [vEx fun a => vAnd (c a) (f a)]))) (k : ∀ a, c a → JS F X { Γ with own := Γ.own.set j (p, oL (ls ++ [f a])) } rest D) : JS F X Γ rest D := fun σ H E h1 h2 => by
  obtain ⟨vs, d1, d2⟩ := own_at h1 hj
  obtain ⟨us, ws, rfl, a1, a2⟩ := d2.split
  cases a2 with
  | cons a2 a3 =>
    cases a3
    obtain ⟨a, hc, ha⟩ := a2
    exact k a hc σ H E (h1.setOwn hj (fun _ _ => rfl) ⟨_, d1, a1.append (.cons ha .nil)⟩) h2
theorem js_putE {α β : Sort _} {ca : α → Prop} {Pv : α → VP} {cb : β → Prop} {kf : β → Lk.D} {ps : List (Lk.D × VP)} (j : Nat) (hr : Room n X.A) (he : JE F X Γ e (vEx fun a => vAnd (ca a) (Pv a))) (ho : JE F X Γ o (vE (.ref p))) (hi : JE F X Γ i (vEx fun b => vAnd (cb b) (vD (kf b)))) (hl : ps.length < sizeLine)
    (q : ∀ a b, ca a → cb b → JS F X { Γ with own := Γ.own.set j (p, oX X.prog X.w (putP ps (kf b) (Pv a))) } rest D) (ht : ∀ b, isT (kf b) = true) (h8 : ∀ b, cb b → (kf b).depth ≤ 8) (hj : Γ.own[j]? = some (p, oX X.prog X.w ps) := by rfl)
    (ha : ∀ v, assign (.Subscript o i pos') X.env v = (do
      let ov ← holding [v] (eval o X.env)
      let iv ← holding [v, ov] (eval i X.env)
      standAt pos'
      holding [v, ov, iv] (setItem ov iv v)
      release [v, ov, iv] []) := by intro _; rfl)
    (hs : swapsWithSole [.Subscript o i pos'] e pos.line X.env = pure false := by rfl) (hw : swappedStores [.Subscript o i pos'] e X.env = pure none := by rfl) (h1 : (assignEach [.Subscript o i pos'] X.env).map (·.2) = [assign (.Subscript o i pos') X.env] := by rfl) :
    JS F X Γ (.Assign [.Subscript o i pos'] e pos :: rest) D :=
  js_st (ps_asg pE (pg_sub pE pE (set_dx2 hr.units) ha) hs hw h1) fun σ H E g1 g2 => he σ H _ g1 fun v H1 s1 ⟨a, c1, p1⟩ => ho σ H1 _ (g1.go s1) fun ov H2 s2 p2 => hi σ H2 _ ((g1.go s1).go s2) fun iv H3 s3 ⟨b, c3, p3⟩ => by
    have E3 := ((g1.go s1).go s2).go s3
    cases (show ov = .ref p from p2)
    obtain ⟨kvs, d1, d2⟩ := own_at E3 hj
    refine ⟨p, kvs, kf b, F.vw Γ H3, rfl, hid_ex _ _, d1, p3, ht b, h8 b c3, by rw [d2.length]; exact hl, fun H4 hk d3 => ?_⟩
    exact q a b c1 c3 σ H4 E (E3.setOwn hj hk ⟨_, d3, d2.put ((Pv a).mono (s2.trans s3).ex p1)⟩) g2
theorem js_dpopE {α : Sort _} {c : α → Prop} {kf : α → Lk.D} {ps : List (Lk.D × VP)} (j : Nat) (hr : Room n X.A) (ho : JE F X Γ o (vE (.ref p))) (he : JE F X Γ e (vEx fun a => vAnd (c a) (vD (kf a)))) (hk : ∀ a, c a → (lk ps (kf a)).isSome = true) (q : ∀ a, JS F X { Γ with own := Γ.own.set j (p, oX X.prog X.w (ps.filter fun kv => decide (kv.1 ≠ kf a))) } rest D) (h8 : ∀ a, c a → (kf a).depth ≤ 8) (ht : ∀ a, isT (kf a) = true) (hj : Γ.own[j]? = some (p, oX X.prog X.w ps) := by rfl)
    (hbase : attributeBase o "pop" X.env (eval o X.env) = eval o X.env := by rfl) (hfew : ((backTo cpos (starEach [e] X.env)).all (fun x => !x.1) && (backToKw cpos (keywordEach [] X.env)).all (fun x => x.1.isSome) && decide ([e].length + ([] : List Keyword).length + (if ([] : List Keyword).isEmpty then 0 else 1) < 30)) = true := by rfl)
    (hline : (apos.endLine == cpos.line) = true := by rfl) (hs : starEach [e] X.env = (false, eval e X.env) :: starEach [] X.env := by rfl) (hsw : swapsWith (.Call (.Attribute o "pop" apos) [e] [] cpos) none pos.line X.env = pure false := by rfl) : JS F X Γ (.Expr (.Call (.Attribute o "pop" apos) [e] [] cpos) pos :: rest) D :=
  js_st (ps_expr (pe_xm PySem.F.slot_dict_pop PySem.F.type_dict_pop (mt_pop2 hr.units) pE pA hbase hfew hline hs rfl) hsw) fun σ H E g1 g2 => ho σ H _ g1 fun x H1 s1 p1 => by
    cases (show x = .ref p from p1)
    obtain ⟨kvs0, d0, _⟩ := own_at (g1.go s1) hj
    refine ⟨⟨kvs0, d0.dx (hid_ex _ _)⟩, ja1 he hs σ H1 _ (g1.go s1) fun vs H2 s2 h => ?_⟩
    have E2 := (g1.go s1).go s2
    obtain ⟨kvs, d1, d2⟩ := own_at E2 hj
    cases h with
    | cons a1 a2 =>
      cases a2
      obtain ⟨a, ca, a1⟩ := a1
      rcases d2.look (kf a) with ⟨n1, _⟩ | ⟨P', v, e1, e2, e3⟩
      · have := hk a ca; rw [n1] at this; cases this
      · exact ⟨p, kvs, kf a, _, v, _, rfl, rfl, hid_ex _ _, d1, Im.mono a1 (hid_ex _ _), ht a, h8 a ca, e2, fun H3 hk3 d3 => q a σ _ E (E2.setOwn hj hk3 ⟨_, d3, d2.drop (kf a)⟩) g2⟩
/-- a list's element, at some place -/
theorem je_ixLt {ps : List VP} (hr : RdL F Γ Pa ps) (ha : JE F X Γ a Pa) (hb : JE F X Γ b (vLt ps.length)) (hP : ∀ (i : Nat) (Q : VP), ps[i]? = some Q → ∀ v K, Q.p v K → P.p v K) (hs : PlainIx b := by intro _ _; rfl) : JE F X Γ (.Subscript a b pos) P :=
  je_ix ix_list ha hb (g2_ltR fun m hm σ H x y Q E hx hy k => by
    obtain ⟨p, vs, h1, hp, hv⟩ := hr σ H x E hx
    obtain ⟨v, e1, e2⟩ := hv.get (List.getElem?_eq_getElem hm)
    exact ⟨p, vs, (m : Int), v, h1, vD_num.mp hy, SqL.of hp, at_nat e1, kt_here k (hP m _ (List.getElem?_eq_getElem hm) _ _ e2)⟩) hs
theorem je_pick {B G : Addr} {alw : V} {m : Nat} {p : Pos} (cp : Fc X.prog X.w X.K X.mg X.base 1 "_law_pick" spPick) (hr : Room n X.A) (hT : F.T = bagTh B G alw) (h1 : 1 ≤ m) (h2 : m ≤ 1000) (ha : JE F X Γ a (vE (.ref B))) (hb : JE F X Γ b (vN m)) (hn : 1 ≤ n := by decide) (hg : Gl X "_law_pick" := by rfl)
    (he : starEach [a, b] X.env = (false, eval a X.env) :: starEach [b] X.env := by rfl) (he2 : starEach [b] X.env = (false, eval b X.env) :: starEach [] X.env := by rfl) (hpl : (backTo pos (starEach [b] X.env)).any (·.1) = false := by rfl) : JE F X Γ (.Call (.Name "_law_pick" p) [a, b] [] pos) (vLt m) :=
  je_call cp (hr.mono hn) (B, G, alw, m) ⟨hT, h1, h2⟩ (ja_cons ha (ja1 hb he2) he) (fun _ _ _ h => h) hg (by decide) he hpl
end
section
variable {P : Program} {w : World} {K : PySem.W.Frag} {mg : Str → Option Value} {base : Heap} {f : Addr} {fd : FuncData} {CB CW CR : Addr}
abbrev Bgs := Addr × Addr × V
abbrev spSome : Sp := mkSp (α := Bgs × List D) (fun a T => T = bagTh a.1.1 a.1.2.1 a.1.2.2 ∧ 1 ≤ a.2.length ∧ a.2.length ≤ 1000) (fun a => [vE (.ref a.1.1), vL (a.2.map vD)]) (fun a _ => vEx fun d : D => vAnd (d ∈ a.2) (vD d))
theorem fc__law_some (fr : Free mg) (cp : Fc P w K mg base 1 "_law_pick" spPick) (F : FnP K "_law_some" s__law_some f fd) (gm : mg "_law_some" = some (.ref f)) : Fc P w K mg base 2 "_law_some" spSome := by
  refine fc_of F gm sc__law_some (F.bindsN fun _ _ _ _ _ _ us hl => match us, hl with | [_, _], _ => rfl) (fun _ => rfl) ?_
  rintro ⟨⟨B, G, alw⟩, ds⟩ Fr cdv A outer s E hr ⟨hT, h1, h2⟩
  refine js_ret (je_ixLt (ps := ds.map vD) (P := vEx fun d : D => vAnd (d ∈ ds) (vD d)) (rdl _) (je_name 1) (je_imp (je_pick cp hr hT h1 h2 (je_name 0) (je_imp (je_lenL fr (rdl (ds.map vD)) (je_name 1)) fun v K h => by rw [List.length_map] at h; exact h)) fun v K h => by rw [List.length_map]; exact h) fun i Q e v K h => ?_) fun _ _ h => h
  rw [List.getElem?_map] at e
  obtain ⟨d, e1, rfl⟩ := Option.map_eq_some_iff.mp e
  exact ⟨d, List.mem_of_getElem? e1, h⟩
/-- values that fit the arities -/
def Wv2 (ar : List Nat) (W : Wb) : Prop := ∀ v, v < W.length → (M.vl W v).op < ar.length ∧ ar[(M.vl W v).op]? = some (M.vl W v).parts.length ∧ ∀ p ∈ (M.vl W v).parts, p < v
theorem Wv2.snoc {ar : List Nat} {W : Wb} (h : Wv2 ar W) {x : Vl} (h1 : x.op < ar.length) (h2 : ar[x.op]? = some x.parts.length) (h3 : ∀ p ∈ x.parts, p < W.length) : Wv2 ar (W ++ [x]) := by
  intro v hv
  rw [List.length_append, List.length_singleton] at hv
  unfold M.vl
  rcases Nat.lt_or_ge v W.length with z | z
  · rw [List.getD_eq_getElem?_getD, List.getElem?_append_left z, ← List.getD_eq_getElem?_getD]
    exact h v z
  · have : v = W.length := by omega
    subst this
    rw [List.getD_eq_getElem?_getD, List.getElem?_append_right (Nat.le_refl _), Nat.sub_self]
    exact ⟨h1, h2, h3⟩
abbrev spValues : Sp := mkSp (α := Bgs × List Nat) (fun a T => T = bagTh a.1.1 a.1.2.1 a.1.2.2 ∧ a.2[0]? = some 0 ∧ a.2.length ≤ 1000 ∧ ∀ x ∈ a.2, x ≤ 1000) (fun a => [vE (.ref a.1.1), vD (dTN a.2), vRg 2 13]) (fun a _ => vEx fun W : Wb => vAnd (Wv2 a.2 W ∧ M.vl W 0 = ⟨0, []⟩ ∧ 2 ≤ W.length ∧ W.length ≤ 12) (vD (rowsD W)))
theorem fc__law_values (fr : Free mg) (cp : Fc P w K mg base 1 "_law_pick" spPick) (F : FnP K "_law_values" s__law_values f fd) (gm : mg "_law_values" = some (.ref f)) : Fc P w K mg base 2 "_law_values" spValues := by
  refine fc_of F gm sc__law_values (F.bindsN fun _ _ _ _ _ _ us hl => match us, hl with | [_, _, _], _ => rfl) (fun _ => rfl) ?_
  rintro ⟨⟨B, G, alw⟩, ar⟩ Fr cdv A outer s E hr ⟨hT, h0, hl, hle⟩
  replace h0 : ar[0]? = some 0 := h0
  replace hl : ar.length ≤ 1000 := hl
  replace hle : ∀ x ∈ ar, x ≤ 1000 := hle
  have hpos : 0 < ar.length := (List.getElem?_eq_some_iff.mp h0).1
  refine js_some (f := fun r : Nat => vAnd (2 ≤ r ∧ r < 13) (vN r)) 2 rfl fun many => js_fact 2 rfl fun hm => ?_
  refine js_new 3 sc__law_values.nd (jn_lst (ja1 (je_tupD (ds := [dN 0, dTN []]) (ja_cons je_int (ja1 (je_tupD (ds := []) ja_nil)))))) fun p => ?_
  refine js_for (fun i Γ => i + 1 ≤ many ∧ ∃ W : Wb, Wv2 ar W ∧ M.vl W 0 = ⟨0, []⟩ ∧ W.length = i + 1 ∧ Γ = ⟨[some (vE (.ref B)), some (vD (dTN ar)), some (vN many), some (vE (.ref p)), none, none, none], [(p, oL (W.map fun x => vD (vlD x)))], []⟩) rfl rfl
    (ji_range2 (i := 1) (j := many) (fr _ (by decide)) je_int (je_name 2)) ⟨by omega, [⟨0, []⟩], ?_, rfl, rfl, rfl⟩ ?_ ?_
  · intro v hv
    have : v = 0 := by simpa using hv
    subst this
    exact ⟨hpos, h0, fun p hp => (nomatch hp)⟩
  · rintro i P' Γ1 hP ⟨hi, W, hW, hW0, hWl, rfl⟩ vv Pc
    rw [List.getElem?_map] at hP
    obtain ⟨j, e1, rfl⟩ := Option.map_eq_some_iff.mp hP
    obtain ⟨hi2, e3⟩ := List.getElem?_eq_some_iff.mp e1
    rw [List.getElem_range] at e3
    subst e3
    rw [List.length_range] at hi2
    refine ⟨_, _, jg_name 4 sc__law_values.nd, ?_⟩
    refine js_setQ (c := fun r => r < ar.length) (f := vN) 5 sc__law_values.nd (je_pick cp hr hT (by omega) hl (je_name 0) (je_imp (je_lenT (ds := ar.map dN) fr (je_name 1)) fun v K h => by rw [List.length_map] at h; exact h)) fun op hop => ?_
    have hat : ar[op]? = some ar[op] := List.getElem?_eq_getElem hop
    have hmin : vZ (if (3 : Int) < ((1 + i : Nat) : Int) then 3 else ((1 + i : Nat) : Int)) = vN (min (1 + i) 3) := by
      show vZ _ = vZ _
      congr 1
      split <;> omega
    refine js_append (ls := W.map fun x => vD (vlD x)) (Pe := vEx fun ns : List Nat => vAnd (ns.length = ar[op] ∧ ∀ p ∈ ns, p < i + 1) (vD (vlD ⟨op, ns⟩))) 0 (je_name 3) (je_imp (je_tup (Ps := [vN op, vTl (ar[op]) fun _ q => q < i + 1]) (ja_cons (je_name 5) (ja1 (je_imp (je_tupleL (ps := (List.range ar[op]).map fun _ => vLt (i + 1)) fr (rdl _) (je_imp (je_new (jn_lc [("_law_part", 6)] (List.range ar[op]) (fun j => vN j) (fun _ => true) (fun _ => vLt (i + 1)) rfl sc__law_values.nd (blkOk_by (by rfl))
      (ji_range1 (n := ar[op]) (fr _ (by decide)) (je_ixT (ds := ar.map dN) (d := dN ar[op]) (je_name 1) (je_name 5) (at_map dN hat)) (Nat.le_trans (hle _ (List.mem_of_getElem? hat)) (by decide))) (by rw [List.length_range]; exact Nat.lt_of_le_of_lt (hle _ (List.mem_of_getElem? hat)) (by decide)) ?_)) fun v K h => ?_)) fun v K h => ?_)))) fun v K h => ?_) ?_ ?_
    · intro k hk A' O v' Pc'
      refine jelt1 6 sc__law_values.nd fun s H0 C cl fp => ⟨jts_nil, fun _ => ?_⟩
      refine je_bin (Pb := vLt (min (1 + i) 3)) op_sub (je_sub (je_name 4) je_int) (je_pick cp hr hT (by omega) (by omega) (je_name 0) (je_eq (je_min2 rfl fr (je_name 4) je_int) hmin)) (g2_ltR fun m hm => g2_I0 fun _ => ⟨i - m, by omega, vD_num.mpr (by rw [Int.natCast_sub (by omega)]; congr 1; omega)⟩)
    · rw [List.filter_eq_self.mpr (fun _ _ => rfl)] at h
      exact h
    · have := vT_lts (f := fun _ : Nat => i + 1) (xs := List.range ar[op]) (q := fun _ q => q < i + 1) (fun _ _ _ _ h => h) h
      rw [List.length_range] at this
      exact this
    · obtain ⟨a, vs, e, g, hv⟩ := h
      cases hv with
      | cons h1 h2 =>
        cases h2 with
        | cons h2 h3 =>
          cases h3
          obtain ⟨ns, ⟨hl1, hl2⟩, hd⟩ := h2
          refine ⟨ns, ⟨hl1, fun p hp => ?_⟩, im_tup.mpr ⟨a, _, e, g, allP_D.mp (.cons h1 (.cons hd .nil))⟩⟩
          obtain ⟨j, hj⟩ := List.getElem?_of_mem hp
          exact hl2 j p hj
    · rw [List.length_map, hWl]; exact Nat.lt_of_le_of_lt (by omega : i + 1 ≤ 100) (by decide)
    · refine js_openL (c := fun ns : List Nat => ns.length = ar[op] ∧ ∀ p ∈ ns, p < i + 1) (f := fun ns => vD (vlD ⟨op, ns⟩)) (ls := W.map fun x => vD (vlD x)) 0 rfl fun ns hns => ?_
      refine js_nil ⟨_, ⟨by omega, W ++ [⟨op, ns⟩], hW.snoc hop (by rw [hns.1]; exact hat) (by rw [hWl]; exact hns.2), by rw [← hW0]; unfold M.vl; rw [List.getD_eq_getElem?_getD, List.getD_eq_getElem?_getD, List.getElem?_append_left (by omega)], by rw [List.length_append, hWl]; rfl, rfl⟩, (by repeat' first | exact True.intro | refine ⟨fun _ _ h => h, ?_⟩), ?_, rfl⟩
      rw [List.map_append]; rfl
  · rintro Γ' ⟨hi, W, hW, hW0, hWl, rfl⟩
    refine js_ret (je_imp (je_tupleL (ps := W.map fun x => vD (vlD x)) fr (rdlO 0) (je_name 3)) fun v K h => ?_) fun _ _ h => h
    rw [List.length_map, List.length_range] at hWl
    refine ⟨W, ⟨hW, hW0, by omega, by omega⟩, vT_D.mp (by rw [List.map_map]; exact h)⟩
end
end Lk
end

section
set_option Elab.async false
set_option linter.all false
set_option maxRecDepth 100000
set_option maxHeartbeats 1000000
/-! Prices by key, as a dict keeps them. -/
namespace Lk
open PySem PySem.Spec L2
open PyProof.Rows hiding St
open Evl (Ex)
open M (Bk Rl Mv Vl Wb Wy)
section
variable {κ : Type} [DecidableEq κ]
def putC (l : List (κ × Nat)) (k : κ) (c : Nat) : List (κ × Nat) := if (l.any fun x => decide (x.1 = k)) = true then l.map (fun x => if x.1 = k then (x.1, c) else x) else l ++ [(k, c)]
abbrev cD (kd : κ → D) (l : List (κ × Nat)) : List (D × VP) := l.map fun x => (kd x.1, vN x.2)
theorem put_cD {kd : κ → D} (hk : ∀ a b, kd a = kd b → a = b) (l : List (κ × Nat)) (k : κ) (c : Nat) : putP (cD kd l) (kd k) (vN c) = cD kd (putC l k c) := by
  unfold putP putC
  have e : ((cD kd l).any fun kv => decide (kv.1 = kd k)) = l.any fun x => decide (x.1 = k) := by
    unfold cD
    rw [List.any_map]
    congr 1
    funext x
    exact decide_eq_decide.mpr ⟨hk _ _, fun z => by show kd x.1 = kd k; rw [z]⟩
  rw [e]
  split
  · unfold cD
    rw [List.map_map, List.map_map]
    apply List.map_congr_left
    intro x _
    show (if kd x.1 = kd k then (kd x.1, vN c) else (kd x.1, vN x.2)) = _
    by_cases q : x.1 = k
    · rw [if_pos (by rw [q])]
      show _ = (kd (if x.1 = k then (x.1, c) else x).1, vN (if x.1 = k then (x.1, c) else x).2)
      rw [if_pos q]
    · rw [if_neg (fun z => q (hk _ _ z))]
      show _ = (kd (if x.1 = k then (x.1, c) else x).1, vN (if x.1 = k then (x.1, c) else x).2)
      rw [if_neg q]
  · unfold cD
    rw [List.map_append]; rfl
theorem putC_mem {l : List (κ × Nat)} {k : κ} {c : Nat} {x : κ × Nat} (h : x ∈ putC l k c) : x = (k, c) ∨ x ∈ l := by
  unfold putC at h
  split at h
  · obtain ⟨y, hy, rfl⟩ := List.mem_map.mp h
    by_cases q : y.1 = k
    · rw [if_pos q, q]; exact .inl rfl
    · rw [if_neg q]; exact .inr hy
  · rcases List.mem_append.mp h with h | h
    · exact .inr h
    · exact .inl (List.mem_singleton.mp h)
theorem putC_keys (l : List (κ × Nat)) (k : κ) (c : Nat) : (putC l k c).map (·.1) = if k ∈ l.map (·.1) then l.map (·.1) else l.map (·.1) ++ [k] := by
  have e : (l.any fun x => decide (x.1 = k)) = true ↔ k ∈ l.map (·.1) := by
    rw [List.any_eq_true, List.mem_map]
    exact ⟨fun ⟨x, h1, h2⟩ => ⟨x, h1, of_decide_eq_true h2⟩, fun ⟨x, h1, h2⟩ => ⟨x, h1, decide_eq_true h2⟩⟩
  unfold putC
  by_cases q : k ∈ l.map (·.1)
  · rw [if_pos (e.mpr q), if_pos q, List.map_map]
    apply List.map_congr_left
    intro x _
    show (if x.1 = k then (x.1, c) else x).1 = x.1
    split <;> rfl
  · rw [if_neg (fun z => q (e.mp z)), if_neg q, List.map_append]; rfl
theorem putC_nd {l : List (κ × Nat)} {k : κ} {c : Nat} (h : (l.map (·.1)).Nodup) : ((putC l k c).map (·.1)).Nodup := by
  rw [putC_keys]
  split
  · exact h
  · rename_i q
    rw [List.nodup_append]
    refine ⟨h, by simp, fun a ha b hb e => ?_⟩
    rw [List.mem_singleton.mp hb] at e
    exact q (e ▸ ha)
theorem putC_len (l : List (κ × Nat)) (k : κ) (c : Nat) : (putC l k c).length ≤ l.length + 1 := by
  have := congrArg List.length (putC_keys l k c)
  rw [List.length_map] at this
  rw [this]
  split
  · rw [List.length_map]; omega
  · rw [List.length_append, List.length_map]; exact Nat.le_refl _
theorem putC_has {l : List (κ × Nat)} {k : κ} {c : Nat} {j : κ} : j ∈ (putC l k c).map (·.1) ↔ j = k ∨ j ∈ l.map (·.1) := by
  rw [putC_keys]
  split
  · rename_i q
    exact ⟨.inr, fun h => h.elim (fun e => e ▸ q) id⟩
  · rw [List.mem_append, List.mem_singleton]
    exact or_comm
theorem lk_nd {β : Type _} {l : List (D × β)} {k : D} {v : β} (nd : (l.map (·.1)).Nodup) (h : (k, v) ∈ l) : lk l k = some v := by
  induction l with
  | nil => cases h
  | cons x t ih =>
    unfold lk
    rw [List.find?_cons]
    rcases List.mem_cons.mp h with e | h
    · rw [← e]; simp
    · have hne : x.1 ≠ k := fun e => by
        rw [List.map_cons, List.nodup_cons] at nd
        exact nd.1 (e ▸ List.mem_map_of_mem (f := (·.1)) h)
      rw [decide_eq_false hne]
      exact ih (List.nodup_cons.mp nd).2 h
theorem cD_lk {kd : κ → D} (hk : ∀ a b, kd a = kd b → a = b) {l : List (κ × Nat)} (nd : (l.map (·.1)).Nodup) {x : κ × Nat} (h : x ∈ l) : lk (cD kd l) (kd x.1) = some (vN x.2) := by
  refine lk_nd ?_ (List.mem_map.mpr ⟨x, h, rfl⟩)
  unfold cD
  rw [List.map_map]
  have : (Prod.fst ∘ fun x : κ × Nat => (kd x.1, vN x.2)) = kd ∘ (·.1) := rfl
  rw [this, ← List.map_map]
  exact List.Pairwise.map _ (fun a b h e => h (hk _ _ e)) nd
end
/-! ### the book's parts -/
abbrev RK := Nat × List Nat × Nat
abbrev MK := Nat × Nat
def rqD (k : RK) : D := .tup [dN k.1, dTN k.2.1, dN k.2.2]
def mqD (k : MK) : D := .tup [dN k.1, dN k.2]
theorem dTN_inj : ∀ {m n : List Nat}, dTN m = dTN n → m = n := fun {m n} h => by
  injection h with h
  exact List.map_inj_right (fun _ _ e => dN_inj e) |>.mp h
theorem rqD_inj (a b : RK) (h : rqD a = rqD b) : a = b := by
  obtain ⟨a1, a2, a3⟩ := a
  obtain ⟨b1, b2, b3⟩ := b
  unfold rqD at h
  injection h with h
  injection h with h1 h
  injection h with h2 h
  injection h with h3 h
  rw [show a1 = b1 from dN_inj h1, show a2 = b2 from dTN_inj h2, show a3 = b3 from dN_inj h3]
theorem mqD_inj (a b : MK) (h : mqD a = mqD b) : a = b := by
  obtain ⟨a1, a2⟩ := a
  obtain ⟨b1, b2⟩ := b
  unfold mqD at h
  injection h with h
  injection h with h1 h
  injection h with h2 h
  rw [show a1 = b1 from dN_inj h1, show a2 = b2 from dN_inj h2]
def toRl (x : RK × Nat) : Rl := ⟨x.1.1, x.1.2.1, x.1.2.2, x.2⟩
def toMv (x : MK × Nat) : Mv := ⟨x.1.1, x.1.2, x.2⟩
theorem rqD_fn (k : RK) : Fn 2 (rqD k) := Fn.tup (n := 1) (all_cons (.num _) (all_cons (Fn.tup (n := 0) fun d hd => by
  obtain ⟨n, _, rfl⟩ := List.mem_map.mp hd
  exact .num _) (all_cons (.num _) all_nil)))
theorem mqD_fn (k : MK) : Fn 1 (mqD k) := Fn.tup (n := 0) (all_cons (.num _) (all_cons (.num _) all_nil))
def ptD (b : Bk) : D := .tup [dTN b.ar, dN b.kn, rusD b, mvsD b]
/-- the rules as far as they are drawn -/
structure RI (ar : List Nat) (kn mo n : Nat) (l : List (RK × Nat)) : Prop where
  nd : (l.map (·.1)).Nodup
  at_ : ∀ x ∈ l, x.1.1 < ar.length ∧ (∀ k ∈ x.1.2.1, k < kn) ∧ ar[x.1.1]? = some x.1.2.1.length ∧ x.1.2.2 < kn ∧ 1 ≤ x.2 ∧ x.2 < 1 + mo
  len : l.length ≤ n
theorem RI.put {ar : List Nat} {kn mo n : Nat} {l : List (RK × Nat)} (h : RI ar kn mo n l) {k : RK} {c : Nat} (h1 : k.1 < ar.length) (h2 : ∀ j ∈ k.2.1, j < kn) (h3 : ar[k.1]? = some k.2.1.length) (h4 : k.2.2 < kn) (h5 : 1 ≤ c ∧ c < 1 + mo) : RI ar kn mo (n + 1) (putC l k c) :=
  ⟨putC_nd h.nd, fun x hx => by
    rcases putC_mem hx with rfl | hx
    · exact ⟨h1, h2, h3, h4, h5⟩
    · exact h.at_ x hx, Nat.le_trans (putC_len _ _ _) (Nat.add_le_add_right h.len 1)⟩
structure MI (kn mo n : Nat) (l : List (MK × Nat)) : Prop where
  nd : (l.map (·.1)).Nodup
  at_ : ∀ x ∈ l, x.1.1 < kn ∧ x.1.2 < kn ∧ x.1.1 ≠ x.1.2 ∧ 1 ≤ x.2 ∧ x.2 < 1 + mo
  len : l.length ≤ n
theorem MI.put {kn mo n : Nat} {l : List (MK × Nat)} (h : MI kn mo n l) {k : MK} {c : Nat} (h1 : k.1 < kn) (h2 : k.2 < kn) (h3 : k.1 ≠ k.2) (h5 : 1 ≤ c ∧ c < 1 + mo) : MI kn mo (n + 1) (putC l k c) :=
  ⟨putC_nd h.nd, fun x hx => by
    rcases putC_mem hx with rfl | hx
    · exact ⟨h1, h2, h3, h5⟩
    · exact h.at_ x hx, Nat.le_trans (putC_len _ _ _) (Nat.add_le_add_right h.len 1)⟩
/-- a drawn book -/
structure Bo (b : Bk) : Prop where
  ok : b.ok
  a0 : b.ar[0]? = some 0
  r0 : ∃ r ∈ b.ru, r.op = 0
  pR : ∀ r ∈ b.ru, r.pr ≤ 100
  pM : ∀ r ∈ b.mv, r.pr ≤ 100
theorem bo_of {ar : List Nat} {kn mo : Nat} {ru : List (RK × Nat)} {mv : List (MK × Nat)} (h1 : 2 ≤ ar.length ∧ ar.length ≤ 5) (h2 : 2 ≤ kn ∧ kn < 6) (h3 : mo ≤ 100) (h4 : ∀ a ∈ ar, a ≤ 2) (h0 : ar[0]? = some 0) (hr : RI ar kn mo 15 ru) (h0r : ∃ x ∈ ru, x.1.1 = 0) (hm : MI kn mo 12 mv) : Bo ⟨ar, kn, ru.map toRl, mv.map toMv⟩ := by
  refine ⟨⟨by show 1 ≤ ar.length; omega, by show ar.length ≤ 8; omega, h4, by show 1 ≤ kn; omega, by show kn ≤ 5; omega, ?_, ?_, ?_, ?_, ?_, ?_⟩, h0, ?_, ?_, ?_⟩
  · show (ru.map toRl).length ≤ 40
    rw [List.length_map]; exact Nat.le_trans hr.len (by decide)
  · show (mv.map toMv).length ≤ 20
    rw [List.length_map]; exact Nat.le_trans hm.len (by decide)
  · intro r hr'
    obtain ⟨x, hx, rfl⟩ := List.mem_map.mp hr'
    obtain ⟨a, b, c, d, e, f⟩ := hr.at_ x hx
    exact ⟨a, b, c, d, e, by show x.2 ≤ 1000; omega⟩
  · intro r hr'
    obtain ⟨x, hx, rfl⟩ := List.mem_map.mp hr'
    obtain ⟨a, b, c, e, f⟩ := hm.at_ x hx
    exact ⟨a, b, c, e, by show x.2 ≤ 1000; omega⟩
  · show ((ru.map toRl).map fun r => (r.op, r.src, r.dst)).Nodup
    rw [List.map_map]; exact hr.nd
  · show ((mv.map toMv).map fun r => (r.frm, r.to)).Nodup
    rw [List.map_map]; exact hm.nd
  · obtain ⟨x, hx, e⟩ := h0r
    exact ⟨toRl x, List.mem_map_of_mem hx, e⟩
  · intro r hr'
    obtain ⟨x, hx, rfl⟩ := List.mem_map.mp hr'
    obtain ⟨a, b, c, d, e, f⟩ := hr.at_ x hx
    show x.2 ≤ 100; omega
  · intro r hr'
    obtain ⟨x, hx, rfl⟩ := List.mem_map.mp hr'
    obtain ⟨a, b, c, e, f⟩ := hm.at_ x hx
    show x.2 ≤ 100; omega
end Lk
end

section
set_option Elab.async false
set_option linter.all false
set_option maxRecDepth 100000
set_option maxHeartbeats 1000000
/-! _law_book. -/
namespace Lk
open PySem PySem.Spec L2
open PyProof.Rows hiding St
open Evl (Ex)
open M (Bk Rl Mv Vl Wb Wy)
section
variable {F : Fm} {X : Cx} {Γ : Ct} {pos p p0 : Pos} {e a b tg : Expr} {Pa Pb P P' : VP} {n : Nat} {rest : List Stmt} {D : PD}
theorem g2_imp {r : R2} (h : G2 F Γ r Pa Pb P) (hi : ∀ v K, P.p v K → P'.p v K) : G2 F Γ r Pa Pb P' := fun σ H x y Q E hx hy k => h σ H x y Q E hx hy fun v H' s p => k v H' s (hi _ _ p)
theorem je_intA (hf : Free X.mg) (he : JE F X Γ e vBool) (hg : Gl X "int" := by rfl) (hs : starEach [e] X.env = (false, eval e X.env) :: starEach [] X.env := by rfl) : JE F X Γ (.Call (.Name "int" p) [e] [] pos) (vLt 2) :=
  je_callT call_int1 (ja1 he hs) (fun σ H xs Q E h k => by
    cases h with
    | cons h1 h2 =>
      cases h2
      obtain ⟨b, hb⟩ := h1
      cases (show _ = V.bl b from hb)
      refine .inr ⟨b, rfl, kt_here k ?_⟩
      cases b
      · exact ⟨0, by decide, vD_num.mpr rfl⟩
      · exact ⟨1, by decide, vD_num.mpr rfl⟩) (hf _ (by decide)) boot_int hg (he := hs)
theorem jie_range {lo hi : Nat} (hm : X.mg "range" = none) (he : JE F X Γ e (vRg lo hi)) (hn : hi ≤ 100000000) (hg : Gl X "range" := by rfl) (hs : starEach [e] X.env = [(false, eval e X.env)] := by rfl) : JIE F X Γ tg (.Call (.Name "range" p0) [e] [] pos) (fun n : {n : Nat // lo ≤ n ∧ n < hi} => (List.range n.1).map vN) :=
  fun σ H R E k => oI_of (pi_range1 hg hm pA hs) (ja1 he hs σ H _ E fun vs H1 s h => by
    cases h with
    | cons h1 h2 =>
      cases h2
      obtain ⟨n, hn', h1⟩ := h1
      cases vD_num.mp h1
      refine ⟨n, rfl, by omega, by omega, ?_⟩
      have e : (List.range n).map vN = (List.range n).map fun (i : Nat) => vZ (0 + (i : Int)) := by
        apply List.map_congr_left
        intro i _
        show vZ _ = vZ _
        rw [Int.zero_add]
      refine k ⟨n, hn'⟩ _ (.non) ⟨fun _ _ => True, fun _ _ => trivial⟩ H1 s trivial ?_
      show WalkP _ ((List.range n).map vN) _ _
      rw [e, Int.toNat_natCast]
      exact walk_rng)
/-- two names set at once -/
theorem js_par {P1 P2 : VP} {px py pt : Pos} {kt k2 : _} {pt2 : Pos} {x y : Str} (i j : Nat) (hc : X.calm = true) (hN : X.N.Nodup) (ha : JA F X Γ [a, b] [P1, P2]) (k : JS F X ((Γ.put i P1).put j P2) rest D) (hi : X.N[i]? = some x := by rfl) (hj : X.N[j]? = some y := by rfl) (hij : i ≠ j := by decide) (hx : X.env.scope.names.lookup x = some .local := by rfl) (hy : X.env.scope.names.lookup y = some .local := by rfl)
    (hw : swappedStores [.Tuple [.Name x px, .Name y py] kt pt] (.Tuple [a, b] k2 pt2) X.env = pure (some [x, y]) := by rfl) (hs : swapsWithSole [.Tuple [.Name x px, .Name y py] kt pt] (.Tuple [a, b] k2 pt2) pos.line X.env = pure false := by rfl) : JS F X Γ (.Assign [.Tuple [.Name x px, .Name y py] kt pt] (.Tuple [a, b] k2 pt2) pos :: rest) D :=
  js_st (ps_par hc hN hi hj hij hx hy pA hw hs) fun σ H E h1 h2 => ha σ H _ h1 fun vs H1 s hv => by
    cases hv with
    | cons p1 t =>
      cases t with
      | cons p2 t =>
        cases t
        exact ⟨_, _, rfl, k _ _ _ (Env.put (Γ := Γ.put i P1) ((h1.go s).put p1) p2) h2⟩
/-- numbers below n in a tuple of length l -/
def vTs (l n : Nat) : VP := vEx fun ns : List Nat => vAnd (ns.length = l ∧ ∀ p ∈ ns, p < n) (vD (dTN ns))
theorem vT_ts {α : Type} {n : Nat} {xs : List α} {v : V} {K : Hp} (h : (vT (xs.map fun _ => vLt n)).p v K) : (vTs xs.length n).p v K := by
  obtain ⟨ns, ⟨h1, h2⟩, h3⟩ := vT_lts (f := fun _ : α => n) (q := fun _ q => q < n) (fun _ _ _ _ h => h) h
  refine ⟨ns, ⟨h1, fun p hp => ?_⟩, h3⟩
  obtain ⟨j, hj⟩ := List.getElem?_of_mem hp
  exact h2 j p hj
/-- a tuple of numbers below n, drawn in turn -/
theorem je_ts {α : Type} {n : Nat} {xs : List α} (fr : Free X.mg) (h : JE F X Γ e (vL (xs.map fun _ => vLt n))) (hg : Gl X "tuple" := by rfl) (hs : starEach [e] X.env = (false, eval e X.env) :: starEach [] X.env := by rfl) : JE F X Γ (.Call (.Name "tuple" p) [e] [] pos) (vTs xs.length n) :=
  je_imp (je_tupleL fr (rdl _) h hg hs) fun v K h => vT_ts h
end
section
variable {P : Program} {w : World} {K : PySem.W.Frag} {mg : Str → Option Value} {base : Heap} {f : Addr} {fd : FuncData} {CB CW CR : Addr}
abbrev spBook : Sp := mkSp (α := Bgs) (fun a T => T = bagTh a.1 a.2.1 a.2.2) (fun a => [vE (.ref a.1), vRg 2 6, vRg 2 6, vRg 1 101]) (fun a _ => vEx fun b : Bk => vAnd (Bo b) (vD (ptD b)))
theorem fc__law_book (fr : Free mg) (cp : Fc P w K mg base 1 "_law_pick" spPick) (F : FnP K "_law_book" s__law_book f fd) (gm : mg "_law_book" = some (.ref f)) : Fc P w K mg base 2 "_law_book" spBook := by
  refine fc_of F gm sc__law_book (F.bindsN fun _ _ _ _ _ _ us hl => match us, hl with | [_, _, _, _], _ => rfl) (fun _ => rfl) ?_
  rintro ⟨B, G, alw⟩ Fr cdv A outer s E hr hT
  replace hT : Fr.T = bagTh B G alw := hT
  refine js_some (f := fun r : Nat => vAnd (2 ≤ r ∧ r < 6) (vN r)) 1 rfl fun ops => js_fact 1 rfl fun hops => ?_
  refine js_some (f := fun r : Nat => vAnd (2 ≤ r ∧ r < 6) (vN r)) 2 rfl fun kn => js_fact 2 rfl fun hkn => ?_
  refine js_some (f := fun r : Nat => vAnd (1 ≤ r ∧ r < 101) (vN r)) 3 rfl fun mo => js_fact 3 rfl fun hmo => ?_
  -- the arities
  refine js_setQ (c := fun ns : List Nat => ns.length = ops ∧ ns[0]? = some 0 ∧ ∀ x ∈ ns, x ≤ 2) (f := fun ns => vD (dTN ns)) 4 sc__law_book.nd (je_imp (je_catP (Ps := [vN 0]) (Qs := (List.range (ops - 1)).map fun _ => vLt 3) (je_tup (Ps := [vN 0]) (ja1 je_int)) (je_tupleL (ps := (List.range (ops - 1)).map fun _ => vLt 3) fr (rdl _) (je_imp (je_new (jn_lc [("_law_op", 6)] (List.range (ops - 1)) (fun k => vN (1 + k)) (fun _ => true) (fun _ => vLt 3) rfl sc__law_book.nd (blkOk_by (by rfl))
      (ji_range2 (i := 1) (j := ops) (fr _ (by decide)) je_int (je_name 1)) (by rw [List.length_range]; exact Nat.lt_of_le_of_lt (by omega : ops - 1 ≤ 100) (by decide)) ?_)) fun v K h => ?_)) ?_) fun v K h => ?_) fun ar har => ?_
  · intro k hk A' O v' Pc'
    refine jelt1 6 sc__law_book.nd fun s H0 C cl fp => ⟨jts_nil, fun _ => ?_⟩
    refine je_if (jt_cmpA op_gt (je_pick cp hr hT (by decide) (by decide) (je_name 0) (je_int (i := ((5 : Nat) : Int)))) je_int (g2_ltL fun m hm => g2_I0 fun _ => ⟨_, rfl⟩)) (fun _ => ?_) fun _ => je_imp (P := vN 0) je_int fun v K h => ⟨0, by decide, h⟩
    refine je_imp (je_addLt (k := 1) (n := 2) je_int (je_intA fr (je_cmp (op_eqI hr.units) (je_pick cp hr hT (by decide) (by decide) (je_name 0) (je_int (i := ((3 : Nat) : Int)))) je_int (g2_ltL fun m hm => g2_imp (g2_eq (d := dN m) (e := .num 2) rfl rfl) fun v K h => ⟨_, h⟩)))) fun v K h => vRg_lt h
  · rw [List.filter_eq_self.mpr (fun _ _ => rfl)] at h
    exact h
  · rw [List.length_map, List.length_range]
    exact Nat.le_trans (by show 1 + (ops - 1) ≤ 100; omega) (by decide)
  · have h2 : (vT ((List.range ops).map fun i => vLt (if i = 0 then 1 else 3))).p v K := by
      obtain ⟨a, vs, e, g, hv⟩ := h
      obtain ⟨us, ws, rfl, h1, h2⟩ := hv.split
      refine ⟨a, _, e, g, ?_⟩
      have er : List.range ops = 0 :: (List.range (ops - 1)).map (1 + ·) := by
        rw [show ops = (ops - 1) + 1 by omega, List.range_succ_eq_map]
        congr 1
        rw [show ops - 1 + 1 - 1 = ops - 1 by omega]
        apply List.map_congr_left
        intro x _
        exact Nat.add_comm x 1
      rw [er, List.map_cons, List.map_map]
      cases h1 with
      | cons h1 h3 =>
        cases h3
        refine .cons ⟨0, by decide, h1⟩ ?_
        have : ((fun i => vLt (if i = 0 then 1 else 3)) ∘ fun x => 1 + x) = fun _ : Nat => vLt 3 := by
          funext x
          show vLt (if 1 + x = 0 then 1 else 3) = _
          rw [if_neg (by omega)]
        rw [this]
        exact h2
    obtain ⟨ns, ⟨hl, hq⟩, hd⟩ := vT_lts (f := fun i : Nat => if i = 0 then 1 else 3) (q := fun i q => q < if i = 0 then 1 else 3) (fun i n x e h => by
      have := (List.getElem?_eq_some_iff.mp e).2
      rw [List.getElem_range] at this
      rw [this]; exact h) h2
    rw [List.length_range] at hl
    refine ⟨ns, ⟨hl, ?_, fun x hx => ?_⟩, hd⟩
    · have hp : 0 < ns.length := by omega
      have : ns[0] < (if (0 : Nat) = 0 then 1 else 3) := hq 0 ns[0] (List.getElem?_eq_getElem hp)
      rw [if_pos rfl] at this
      rw [List.getElem?_eq_getElem hp]
      congr 1
      omega
    · obtain ⟨j, hj⟩ := List.getElem?_of_mem hx
      have : x < (if j = 0 then 1 else 3) := hq j x hj
      split at this <;> omega
  obtain ⟨har1, har0, har2⟩ := har
  -- the rules
  refine js_new 5 sc__law_book.nd jn_dict fun pr => ?_
  refine js_for (fun i Γ => i ≤ ops ∧ ∃ ru, RI ar kn mo (3 * i) ru ∧ (1 ≤ i → ∃ x ∈ ru, x.1.1 = 0) ∧ Γ = ⟨[some (vE (.ref B)), some (vN ops), some (vN kn), some (vN mo), some (vD (dTN ar)), some (vE (.ref pr)), none, none, none, none, none, none, none, none, none], [(pr, oX P w (cD rqD ru))], []⟩) rfl rfl
    (ji_range1 (n := ops) (fr _ (by decide)) (je_name 1)) ⟨Nat.zero_le _, [], ⟨List.nodup_nil, fun x h => (nomatch h), Nat.zero_le _⟩, fun h => absurd h (by decide), rfl⟩ ?_ ?_
  · rintro i P' Γ1 hP ⟨hi, ru, hru, hr0, rfl⟩ vv Pc
    rw [List.getElem?_map] at hP
    obtain ⟨j, e1, rfl⟩ := Option.map_eq_some_iff.mp hP
    obtain ⟨hi2, e3⟩ := List.getElem?_eq_some_iff.mp e1
    rw [List.getElem_range] at e3
    subst e3
    rw [List.length_range] at hi2
    have hia : i < ar.length := by omega
    have hat : ar[i]? = some ar[i] := List.getElem?_eq_getElem hia
    have hai : ar[i] ≤ 2 := har2 _ (List.getElem_mem hia)
    refine ⟨_, _, jg_name 6 sc__law_book.nd, ?_⟩
    refine js_forE (Ps := fun n : {n : Nat // 1 ≤ n ∧ n < 1 + 3} => (List.range n.1).map vN) (fun j Γ => j ≤ 3 ∧ ∃ ru, RI ar kn mo (3 * i + j) ru ∧ (1 ≤ i ∨ 1 ≤ j → ∃ x ∈ ru, x.1.1 = 0) ∧ Γ = ⟨[some (vE (.ref B)), some (vN ops), some (vN kn), some (vN mo), some (vD (dTN ar)), some (vE (.ref pr)), some (vN i), none, none, none, none, none, none, none, none], [(pr, oX P w (cD rqD ru))], [(vv, Pc)]⟩) rfl rfl
      (jie_range (lo := 1) (hi := 1 + 3) (fr _ (by decide)) (je_addLt (k := 1) (n := 3) je_int (je_pick cp hr hT (by decide) (by decide) (je_name 0) (je_int (i := ((3 : Nat) : Int))))) (by decide)) ⟨by decide, ru, hru, fun h => hr0 (h.resolve_right (by decide)), rfl⟩ ?_ ?_
    · rintro ⟨m, hm1, hm2⟩ j P' Γ1 hP ⟨hj, ru, hru, hr0, rfl⟩ v2 Pc2
      have hjm : j < m := by
        have := (List.getElem?_eq_some_iff.mp hP).1
        rwa [List.length_map, List.length_range] at this
      refine ⟨_, _, jg_name 7 sc__law_book.nd, ?_⟩
      refine js_setQ (c := fun ns : List Nat => ns.length = (List.range ar[i]).length ∧ ∀ p ∈ ns, p < kn) (f := fun ns => vD (dTN ns)) 8 sc__law_book.nd (je_ts (xs := List.range ar[i]) (n := kn) fr (je_imp (je_new (jn_lc [("_law_part", 13)] (List.range ar[i]) (fun k => vN k) (fun _ => true) (fun _ => vLt kn) rfl sc__law_book.nd (blkOk_by (by rfl))
        (ji_range1 (n := ar[i]) (fr _ (by decide)) (je_ixT (ds := ar.map dN) (d := dN ar[i]) (je_name 4) (je_name 6) (at_map dN hat))) (by rw [List.length_range]; exact Nat.lt_of_le_of_lt hai (by decide)) ?_)) fun v K h => ?_)) fun ns hns => ?_
      · intro k hk A' O v' Pc'
        exact jelt1 13 sc__law_book.nd fun s H0 C cl fp => ⟨jts_nil, fun _ => je_pick cp hr hT (by omega) (by omega) (je_name 0) (je_name 2)⟩
      · rw [List.filter_eq_self.mpr (fun _ _ => rfl)] at h
        exact h
      · rw [List.length_range] at hns
        refine js_putE (ca := fun c : Nat => 1 ≤ c ∧ c < 1 + mo) (Pv := vN) (cb := fun d : Nat => d < kn) (kf := fun d : Nat => rqD (i, ns, d)) (ps := cD rqD ru) 0 hr (je_addLt (k := 1) (n := mo) je_int (je_pick cp hr hT (by omega) (by omega) (je_name 0) (je_name 3))) (je_name 5) (je_imp (je_tup (Ps := [vN i, vD (dTN ns), vLt kn]) (ja_cons (je_name 6) (ja_cons (je_name 8) (ja1 (je_pick cp hr hT (by omega) (by omega) (je_name 0) (je_name 2)))))) fun v K h => ?_) ?_ (fun c d hc hd => ?_) (fun _ => rfl) (fun d _ => Nat.le_trans (rqD_fn _).2 (by decide))
        · obtain ⟨a, vs, e, g, hv⟩ := h
          cases hv with
          | cons h1 h2 =>
            cases h2 with
            | cons h2 h3 =>
              cases h3 with
              | cons h3 h4 =>
                cases h4
                obtain ⟨d, hd, h3⟩ := h3
                exact ⟨d, hd, im_tup.mpr ⟨a, _, e, g, (allP_D (ds := [dN i, dTN ns, dN d])).mp (.cons h1 (.cons h2 (.cons h3 .nil)))⟩⟩
        · rw [List.length_map]; exact Nat.lt_of_le_of_lt hru.len (Nat.lt_of_le_of_lt (by omega : 3 * i + j ≤ 100) (by decide))
        · refine js_nil ⟨_, ⟨by omega, putC ru (i, ns, d) c, hru.put hia hns.2 (by rw [hns.1]; exact hat) hd hc, fun _ => ?_, rfl⟩, (by repeat' first | exact True.intro | refine ⟨fun _ _ h => h, ?_⟩), ?_, rfl⟩
          · by_cases hz : i = 0
            · have : (i, ns, d) ∈ (putC ru (i, ns, d) c).map (·.1) := putC_has.mpr (.inl rfl)
              obtain ⟨x, hx, e⟩ := List.mem_map.mp this
              exact ⟨x, hx, by rw [e]; exact hz⟩
            · obtain ⟨x, hx, e⟩ := hr0 (.inl (by omega))
              have : x.1 ∈ (putC ru (i, ns, d) c).map (·.1) := putC_has.mpr (.inr (List.mem_map_of_mem hx))
              obtain ⟨y, hy, e2⟩ := List.mem_map.mp this
              exact ⟨y, hy, by rw [e2]; exact e⟩
          · show [(pr, oX P w (putP (cD rqD ru) (rqD (i, ns, d)) (vN c)))] = _
            rw [put_cD rqD_inj]
    · rintro ⟨m, hm1, hm2⟩ Γ' ⟨hj, ru, hru, hr0, rfl⟩
      rw [List.length_map, List.length_range] at hj hru hr0
      exact js_nil ⟨_, ⟨by omega, ru, ⟨hru.nd, hru.at_, Nat.le_trans hru.len (by omega)⟩, fun _ => hr0 (.inr hm1), rfl⟩, (by repeat' first | exact True.intro | refine ⟨fun _ _ h => h, ?_⟩), rfl, rfl⟩
  · rintro Γ' ⟨hi, ru, hru, hr0, rfl⟩
    rw [List.length_map, List.length_range] at hi hru hr0
    replace hr0 := hr0 (by omega)
    -- the moves
    refine js_show 5 0 rfl rfl ?_
    refine js_new 9 sc__law_book.nd jn_dict fun pm => ?_
    refine js_forE (Ps := fun n : {n : Nat // 0 ≤ n ∧ n < 3 + 2 * kn} => (List.range n.1).map vN) (fun j Γ => ∃ mv, MI kn mo j mv ∧ Γ = ⟨[some (vE (.ref B)), some (vN ops), some (vN kn), some (vN mo), some (vD (dTN ar)), some (vX P w (cD rqD ru)), none, none, none, some (vE (.ref pm)), none, none, none, none, none], [(pm, oX P w (cD mqD mv))], []⟩) rfl rfl
      (jie_range (lo := 0) (hi := 3 + 2 * kn) (fr _ (by decide)) (je_if (jt_cmpA op_lt (je_pick cp hr hT (by decide) (by decide) (je_name 0) (je_int (i := ((3 : Nat) : Int)))) je_int (g2_ltL fun m hm => g2_I0 fun _ => ⟨_, rfl⟩)) (fun _ => je_imp (je_pick cp hr hT (by decide) (by decide) (je_name 0) (je_int (i := ((3 : Nat) : Int)))) fun v K h => vRg_mono (Nat.le_refl _) (by omega) (vLt_rg h)) fun _ => je_imp (je_addLt (k := 3) (n := 2 * kn) je_int (je_pick cp hr hT (by omega) (by omega) (je_name 0) (je_mul' (je_int (i := ((2 : Nat) : Int))) (je_name 2) (.inl ⟨by decide, by omega⟩)))) fun v K h => vRg_mono (Nat.zero_le _) (Nat.le_refl _) h) (by omega)) ⟨[], ⟨List.nodup_nil, fun x h => (nomatch h), Nat.le_refl _⟩, rfl⟩ ?_ ?_
    · rintro ⟨m, hm1, hm2⟩ j P' Γ1 hP ⟨mv, hmv, rfl⟩ v2 Pc2
      have hjm : j < m := by
        have := (List.getElem?_eq_some_iff.mp hP).1
        rwa [List.length_map, List.length_range] at this
      refine ⟨_, _, jg_name 7 sc__law_book.nd, ?_⟩
      refine js_par (P1 := vLt kn) (P2 := vLt kn) 10 11 rfl sc__law_book.nd (ja_cons (je_pick cp hr hT (by omega) (by omega) (je_name 0) (je_name 2)) (ja1 (je_pick cp hr hT (by omega) (by omega) (je_name 0) (je_name 2)))) ?_
      refine js_some (f := fun r : Nat => vAnd (r < kn) (vN r)) 10 rfl fun one => js_fact 10 rfl fun hone => ?_
      refine js_some (f := fun r : Nat => vAnd (r < kn) (vN r)) 11 rfl fun oth => js_fact 11 rfl fun hoth => ?_
      refine js_ifLast (jt_neD (d := dN one) (e := dN oth) hr (je_name 10) (je_name 11)) (fun hb => ?_) fun hb => ?_
      · have hne : one ≠ oth := fun e => by rw [e] at hb; simp at hb
        refine js_putE (ca := fun c : Nat => 1 ≤ c ∧ c < 1 + mo) (Pv := vN) (cb := fun _ : Unit => True) (kf := fun _ : Unit => mqD (one, oth)) (ps := cD mqD mv) 0 hr (je_addLt (k := 1) (n := mo) je_int (je_pick cp hr hT (by omega) (by omega) (je_name 0) (je_name 3))) (je_name 9) (je_imp (je_tupD (ds := [dN one, dN oth]) (ja_cons (je_name 10) (ja1 (je_name 11)))) fun v K h => ⟨(), trivial, h⟩) ?_ (fun c d hc hd => ?_) (fun _ => rfl) (fun d _ => Nat.le_trans (mqD_fn _).2 (by decide))
        · rw [List.length_map]; exact Nat.lt_of_le_of_lt hmv.len (Nat.lt_of_le_of_lt (by omega : j ≤ 100) (by decide))
        · refine js_nil ⟨_, ⟨putC mv (one, oth) c, hmv.put hone hoth hne hc, rfl⟩, (by repeat' first | exact True.intro | refine ⟨fun _ _ h => h, ?_⟩), ?_, rfl⟩
          show [(pm, oX P w (putP (cD mqD mv) (mqD (one, oth)) (vN c)))] = _
          rw [put_cD mqD_inj]
      · exact js_nil ⟨_, ⟨mv, ⟨hmv.nd, hmv.at_, Nat.le_succ_of_le hmv.len⟩, rfl⟩, (by repeat' first | exact True.intro | refine ⟨fun _ _ h => h, ?_⟩), rfl, rfl⟩
    · rintro ⟨m, hm1, hm2⟩ Γ' ⟨mv, hmv, rfl⟩
      rw [List.length_map, List.length_range] at hmv
      replace hmv : MI kn mo m mv := hmv
      refine js_show 9 0 rfl rfl ?_
      have hbo : Bo ⟨ar, kn, ru.map toRl, mv.map toMv⟩ := bo_of (by omega) hkn (by omega) har2 har0 ⟨hru.nd, hru.at_, Nat.le_trans hru.len (by omega)⟩ hr0 ⟨hmv.nd, hmv.at_, Nat.le_trans hmv.len (by omega)⟩
      refine js_set (P := vD (.tup ((ru.map toRl).map rlD))) 12 sc__law_book.nd (je_tupleD (ds := (ru.map toRl).map rlD) fr (je_imp (je_new (jn_lc [("_law_key", 14)] ru (fun x => vD (rqD x.1)) (fun _ => true) (fun x => vD (rlD (toRl x))) rfl sc__law_book.nd (blkOk_by (by rfl))
        (ji_imp (ji_keysX (je_name 5)) (by rw [List.map_map]; rfl)) (Nat.lt_of_le_of_lt hru.len (Nat.lt_of_le_of_lt (by omega : 3 * ops ≤ 100) (by decide))) ?_)) fun v K h => ?_)) ?_
      · intro x hx A' O v' Pc'
        refine jelt1 14 sc__law_book.nd fun s H0 C cl fp => ⟨jts_nil, fun _ => ?_⟩
        exact je_catD (ds := [dN x.1.1, dTN x.1.2.1, dN x.1.2.2]) (es := [dN x.2]) (je_name 14) (je_tupD (ds := [dN x.2]) (ja1 (je_ixX hr (rdx (cD rqD ru)) (je_name 5) (je_name 14) (cD_lk rqD_inj hru.nd hx) rfl (Nat.le_trans (rqD_fn _).2 (by decide))))) (Nat.le_of_ble_eq_true rfl)
      · rw [List.filter_eq_self.mpr (fun _ _ => rfl)] at h
        rw [List.map_map, List.map_map]; exact h
      refine js_ret (P := vEx fun b : Bk => vAnd (Bo b) (vD (ptD b))) (je_imp (je_tupD (ds := [dTN ar, dN kn, .tup ((ru.map toRl).map rlD), .tup ((mv.map toMv).map mvD)]) (ja_cons (je_name 4) (ja_cons (je_name 2) (ja_cons (je_name 12) (ja1 (je_tupleD (ds := (mv.map toMv).map mvD) fr (je_imp (je_new (jn_lc [("_law_key", 14)] mv (fun x => vD (mqD x.1)) (fun _ => true) (fun x => vD (mvD (toMv x))) rfl sc__law_book.nd (blkOk_by (by rfl))
        (ji_imp (ji_keysX (je_name 9)) (by rw [List.map_map]; rfl)) (Nat.lt_of_le_of_lt hmv.len (Nat.lt_of_le_of_lt (by omega : m ≤ 100) (by decide))) ?_)) fun v K h => ?_))))))) fun v K h => ⟨⟨ar, kn, ru.map toRl, mv.map toMv⟩, hbo, h⟩) fun _ _ h => h
      · intro x hx A' O v' Pc'
        refine jelt1 14 sc__law_book.nd fun s H0 C cl fp => ⟨jts_nil, fun _ => ?_⟩
        exact je_catD (ds := [dN x.1.1, dN x.1.2]) (es := [dN x.2]) (je_name 14) (je_tupD (ds := [dN x.2]) (ja1 (je_ixX hr (rdx (cD mqD mv)) (je_name 9) (je_name 14) (cD_lk mqD_inj hmv.nd hx) rfl (Nat.le_trans (mqD_fn _).2 (by decide))))) (Nat.le_of_ble_eq_true rfl)
      · rw [List.filter_eq_self.mpr (fun _ _ => rfl)] at h
        rw [List.map_map, List.map_map]; exact h
end
end Lk
end

section
set_option Elab.async false
set_option linter.all false
set_option maxRecDepth 100000
set_option maxHeartbeats 1000000
/-! _law_price, _law_needs, _law_trees, _law_is_moved. -/
namespace Lk
open PySem PySem.Spec L2
open PyProof.Rows hiding St
open Evl (Ex)
open M (Bk Rl Mv Vl Wb Wy)
section
variable {P : Program} {w : World} {K : PySem.W.Frag} {mg : Str → Option Value} {base : Heap} {f : Addr} {fd : FuncData} {CB CW CR : Addr}
section
variable {F : Fm} {X : Cx} {Γ : Ct} {pos : Pos} {a b : Expr} {bk : Bk}
theorem je_pRu {j q} (h : JE F X Γ a (vD (ptD bk))) : JE F X Γ (.Subscript a (.Constant (.int 2) j q) pos) (vD (rusD bk)) := je_ixT (ds := [dTN bk.ar, dN bk.kn, rusD bk, mvsD bk]) (i := 2) h je_int rfl
theorem je_pMv {j q} (h : JE F X Γ a (vD (ptD bk))) : JE F X Γ (.Subscript a (.Constant (.int 3) j q) pos) (vD (mvsD bk)) := je_ixT (ds := [dTN bk.ar, dN bk.kn, rusD bk, mvsD bk]) (i := 3) h je_int rfl
theorem je_pKn {j q} (h : JE F X Γ a (vD (ptD bk))) : JE F X Γ (.Subscript a (.Constant (.int 1) j q) pos) (vN bk.kn) := je_ixT (ds := [dTN bk.ar, dN bk.kn, rusD bk, mvsD bk]) (i := 1) h je_int rfl
theorem je_pAr {j q} (h : JE F X Γ a (vD (ptD bk))) : JE F X Γ (.Subscript a (.Constant (.int 0) j q) pos) (vD (dTN bk.ar)) := je_ixT (ds := [dTN bk.ar, dN bk.kn, rusD bk, mvsD bk]) (i := 0) h je_int rfl
theorem je_aRu {n : Nat} (h : JE F X Γ a (vD (ptD bk))) (hb : JE F X Γ b (vN n)) (hn : n < bk.ru.length) {j q q2} (hs : PlainIx b := by intro _ _; rfl) : JE F X Γ (.Subscript (.Subscript a (.Constant (.int 2) j q) q2) b pos) (vD (rlD (bk.rl n))) := je_ixT (ds := bk.ru.map rlD) (je_pRu h) hb (at_map rlD (rl_at hn)) hs
theorem je_aMv {n : Nat} (h : JE F X Γ a (vD (ptD bk))) (hb : JE F X Γ b (vN n)) (hn : n < bk.mv.length) {j q q2} (hs : PlainIx b := by intro _ _; rfl) : JE F X Γ (.Subscript (.Subscript a (.Constant (.int 3) j q) q2) b pos) (vD (mvD (bk.mo n))) := je_ixT (ds := bk.mv.map mvD) (je_pMv h) hb (at_map mvD (mo_at hn)) hs
theorem je_aVl {W : Wb} {n : Nat} (h : JE F X Γ a (vD (rowsD W))) (hb : JE F X Γ b (vN n)) (hn : n < W.length) (hs : PlainIx b := by intro _ _; rfl) : JE F X Γ (.Subscript a b pos) (vD (vlD (M.vl W n))) := je_ixT (ds := W.map vlD) h hb (at_map vlD (vl_at hn)) hs
end
abbrev spLPrice : Sp := mkSp (α := Bk × Wy) (fun a _ => ∃ op kind, a.2 ∈ M.waysOf a.1 op kind) (fun a => [vD (ptD a.1), vD (wyD a.2)]) (fun a _ => vN (M.price a.1 a.2))
theorem fc__law_price (F : FnP K "_law_price" s__law_price f fd) (gm : mg "_law_price" = some (.ref f)) : Fc P w K mg base 1 "_law_price" spLPrice := by
  refine fc_of F gm sc__law_price (F.bindsN fun _ _ _ _ _ _ us hl => match us, hl with | [_, _], _ => rfl) (fun _ => rfl) ?_
  rintro ⟨b, y⟩ Fr cdv A outer s E hr ⟨op, kind, hy⟩
  rcases M.mem_waysOf.mp hy with ⟨n, rfl, h1, h2⟩ | ⟨n, rfl, h1, h2, h3⟩
  · exact js_ret (P := vN (b.mo n).pr) (je_if (jt_eqD hr (je_ixT (ds := [.text sMove, dN n]) (d := .text sMove) (je_name 1) je_int rfl) je_str fine_move fine_rule) (fun z => absurd z (by rw [decide_eq_false (fun e => by injection e with e; exact sMove_ne e)]; exact fun z => nomatch z)) fun _ => je_ixT (ds := [dN (b.mo n).frm, dN (b.mo n).to, dN (b.mo n).pr]) (je_aMv (je_name 0) (je_ixT (ds := [.text sMove, dN n]) (d := dN n) (je_name 1) je_int rfl) h1) je_int rfl) fun _ _ h => h
  · exact js_ret (P := vN (b.rl n).pr) (je_if (jt_eqD hr (je_ixT (ds := [.text sRule, dN n]) (d := .text sRule) (je_name 1) je_int rfl) je_str fine_rule fine_rule) (fun _ => je_ixT (ds := [dN (b.rl n).op, dTN (b.rl n).src, dN (b.rl n).dst, dN (b.rl n).pr]) (je_aRu (je_name 0) (je_ixT (ds := [.text sRule, dN n]) (d := dN n) (je_name 1) je_int rfl) h1) je_int rfl) fun z => absurd (z.trans (decide_eq_true rfl)) (fun q => nomatch q)) fun _ _ h => h
abbrev spLNeeds : Sp := mkSp (α := Bk × Wb × Thg × Wy) (fun a _ => Nd a.1 a.2.1 a.2.2.1 a.2.2.2) (fun a => [vD (ptD a.1), vD (rowsD a.2.1), vD (encT a.2.2.1), vD (wyD a.2.2.2)]) (fun a _ => vL (thsV (M.needs a.1 a.2.1 a.2.2.1 a.2.2.2)))
theorem fc__law_needs (fr : Free mg) (F : FnP K "_law_needs" s__law_needs f fd) (gm : mg "_law_needs" = some (.ref f)) : Fc P w K mg base 1 "_law_needs" spLNeeds := by
  refine fc_of F gm sc__law_needs (F.bindsN fun _ _ _ _ _ _ us hl => match us, hl with | [_, _, _, _], _ => rfl) (fun _ => rfl) ?_
  rintro ⟨b, W, t, y⟩ Fr cdv A outer s E hr hn
  replace hn : Nd b W t y := hn
  cases y with
  | mv n =>
    have h1 := nd_mv hn
    refine js_if (fun _ => False) (jt_eqD hr (je_ixT (ds := [.text sMove, dN n]) (d := .text sMove) (je_name 3) je_int rfl) je_str fine_move fine_move) (fun _ => ?_) (fun z => nomatch z) (fun _ h => h.elim)
    exact js_ret (je_new (jn_lst (ja1 (je_tupD (ds := [dN t.1, dN (b.mo n).frm]) (ja_cons (je_ixT (ds := [dN t.1, dN t.2]) (d := dN t.1) (je_name 2) je_int rfl) (ja1 (je_ixT (ds := [dN (b.mo n).frm, dN (b.mo n).to, dN (b.mo n).pr]) (je_aMv (je_name 0) (je_ixT (ds := [.text sMove, dN n]) (d := dN n) (je_name 3) je_int rfl) h1) je_int rfl))))))) fun v K h => h
  | ru n =>
    obtain ⟨h1, h2⟩ := nd_len hn
    have ht := hn.2.2.1
    refine js_skipB (jt_eqD hr (je_ixT (ds := [.text sRule, dN n]) (d := .text sRule) (je_name 3) je_int rfl) je_str fine_rule fine_move) (decide_eq_false fun h => by injection h with h; exact sMove_ne h.symm) ?_
    refine js_ret (je_new (jn_zip (ds := (M.vl W t.1).parts.map dN) (es := (b.rl n).src.map dN) rfl fr (je_ixT (ds := [dN (M.vl W t.1).op, dTN (M.vl W t.1).parts]) (je_aVl (je_name 1) (je_ixT (ds := [dN t.1, dN t.2]) (d := dN t.1) (je_name 2) je_int rfl) ht) je_int rfl)
      (je_ixT (ds := [dN (b.rl n).op, dTN (b.rl n).src, dN (b.rl n).dst, dN (b.rl n).pr]) (je_aRu (je_name 0) (je_ixT (ds := [.text sRule, dN n]) (d := dN n) (je_name 3) je_int rfl) h1) je_int rfl) (by rw [List.length_map, List.length_map]; exact h2))) fun v K h => ?_
    have e : (((M.vl W t.1).parts.map dN).zip ((b.rl n).src.map dN)).map (fun q => vD (.tup [q.1, q.2])) = thsV (M.needs b W t (.ru n)) := by
      rw [List.zip_map, List.map_map]
      rfl
    have h : (vL _).p v K := h
    rw [e] at h
    exact h
abbrev spLTrees : Sp := mkSp (α := Bk × Wb) (fun a _ => a.1.ok ∧ M.Wok a.1 a.2) (fun a => [vD (rowsD a.2)]) (fun a _ => vL ((szs a.2).map vN))
theorem fc__law_trees (fr : Free mg) (F : FnP K "_law_trees" s__law_trees f fd) (gm : mg "_law_trees" = some (.ref f)) : Fc P w K mg base 1 "_law_trees" spLTrees := by
  refine fc_of F gm sc__law_trees (F.bindsN fun _ _ _ _ _ _ us hl => match us, hl with | [_], _ => rfl) (fun _ => rfl) ?_
  rintro ⟨b, W⟩ Fr cdv A outer s E hr ⟨ok, wok⟩
  replace ok : b.ok := ok
  replace wok : M.Wok b W := wok
  have w200 := wok.len
  refine js_new 1 sc__law_trees.nd (jn_lst ja_nil) fun p => ?_
  refine js_for (fun i Γ => Γ = ⟨[some (vD (rowsD W)), some (vE (.ref p)), none, none, none], [(p, oL ((List.range i).map fun j => vN (M.tz W j)))], []⟩) rfl rfl
    (ji_tupD (ds := W.map vlD) (je_name 0)) rfl ?_ ?_
  · rintro i P' Γ1 hP rfl v1 Pc1
    rw [List.map_map, List.getElem?_map] at hP
    obtain ⟨x, e1, rfl⟩ := Option.map_eq_some_iff.mp hP
    obtain ⟨hi, e3⟩ := List.getElem?_eq_some_iff.mp e1
    have hx : x = M.vl W i := by rw [vl_at hi] at e1; exact (Option.some.inj e1).symm
    subst hx
    have hp2 := ((wv_of ok wok).at_ i hi).2
    refine ⟨_, _, jg_tupD (ds := [dN (M.vl W i).op, dTN (M.vl W i).parts]) (jg_tup rfl (jgs_cons (jg_name 2 sc__law_trees.nd) (jgs_cons (jg_name 3 sc__law_trees.nd) jgs_nil))), ?_⟩
    refine js_append 0 (Pe := vN (M.tz W i)) (je_name 1) (je_eq (je_add je_int (je_sum (ns := (M.vl W i).parts.map (M.tz W)) rfl fr (je_imp (je_new (jn_lc [("_law_part", 4)] (M.vl W i).parts (fun q => vN q) (fun _ => true) (fun q => vN (M.tz W q)) rfl sc__law_trees.nd (blkOk_by (by rfl)) (ji_imp (ji_tupD (ds := (M.vl W i).parts.map dN) (je_name 3)) (by rw [List.map_map]; rfl)) (Nat.lt_of_le_of_lt hp2.1 (by decide)) ?_)) fun vv K h => ?_))) ?_) ?_ ?_
    · intro q hq A' O v' Pc'
      have hqi := hp2.2 q hq
      exact jelt1 4 sc__law_trees.nd fun s H0 C cl fp => ⟨jts_nil, fun _ => je_ixL (rdlO (ps := (List.range i).map fun j => vN (M.tz W j)) 0) (je_name 1) (je_name 4) (at_nat (by rw [List.getElem?_map, List.getElem?_range hqi]; rfl))⟩
    · rw [List.filter_eq_self.mpr (fun _ _ => rfl)] at h
      rw [List.map_map]
      exact h
    · show vZ (1 + ((((M.vl W i).parts.map (M.tz W)).sum : Nat) : Int)) = vZ ((M.tz W i : Nat) : Int)
      rw [M.tz_eq wok hi, Int.natCast_add]
      rfl
    · rw [List.length_map, List.length_range]
      exact Nat.lt_of_le_of_lt (by omega : i ≤ 200) (by decide)
    · refine js_nil ⟨_, rfl, (by repeat' first | exact True.intro | refine ⟨fun _ _ h => h, ?_⟩), ?_, rfl⟩
      show [(p, oL (_ ++ _))] = [(p, oL _)]
      rw [List.range_succ, List.map_append]
      rfl
  · rintro Γ' rfl
    rw [List.length_map, List.length_map]
    refine js_show 1 0 rfl rfl ?_
    refine js_ret (je_name 1) fun v K h => ?_
    have h : (vL ((List.range W.length).map fun j => vN (M.tz W j))).p v K := h
    show (vL ((szs W).map vN)).p v K
    unfold szs
    rw [List.map_map]
    exact h
/-- told by thing -/
abbrev tD (ts : List Thg) (g : Thg → D) : List (D × VP) := ts.map fun t => (encT t, vD (g t))
structure Mvd (ts us : List Thg) (g h : Thg → D) (ns : List Nat) : Prop where
  few : ts.length < sizeLine
  at_ : ∀ t ∈ ts, ∃ m, ns[t.1]? = some m ∧ (m, t.2) ∈ us ∧ h (m, t.2) = g t ∧ fine (g t) = true
abbrev spIsMoved (P : Program) (w : World) : Sp := mkSp (α := List Thg × List Thg × (Thg → D) × (Thg → D) × List Nat) (fun a _ => Mvd a.1 a.2.1 a.2.2.1 a.2.2.2.1 a.2.2.2.2) (fun a => [vX P w (tD a.1 a.2.2.1), vX P w (tD a.2.1 a.2.2.2.1), vD (dTN a.2.2.2.2)]) (fun _ _ => vB true)
theorem fc__law_is_moved (fr : Free mg) (F : FnP K "_law_is_moved" s__law_is_moved f fd) (gm : mg "_law_is_moved" = some (.ref f)) : Fc P w K mg base 1 "_law_is_moved" (spIsMoved P w) := by
  refine fc_of F gm sc__law_is_moved (F.bindsN fun _ _ _ _ _ _ us hl => match us, hl with | [_, _, _], _ => rfl) (fun _ => rfl) ?_
  rintro ⟨ts, us, g, h, ns⟩ Fr cdv A outer s E hr hp
  replace hp : Mvd ts us g h ns := hp
  refine js_ret (P := vB ((ts.map fun _ => true).all id)) (je_all rfl fr (je_imp (je_new (jn_lc [("_law_value", 3), ("_law_kind", 4)] ts (fun t => vD (encT t)) (fun _ => true) (fun _ => vB true) rfl sc__law_is_moved.nd (blkOk_by (by rfl)) (ji_imp (ji_keysX (je_name 0)) (by rw [List.map_map]; rfl)) hp.few ?_)) fun v K h => ?_)) (fun v K h => by rw [show v = _ from h]; show V.bl _ = V.bl true; congr 1; simp)
  · intro t ht A' O v' Pc'
    obtain ⟨m, h1, h2, h3, h4⟩ := hp.at_ t ht
    refine jelt_imp (P := vT [vN t.1, vN t.2]) (jelt2 3 4 rfl sc__law_is_moved.nd fun s H0 C cl fp => ⟨jts_nil, fun _ => ?_⟩) fun v K q => vT_D.mpr q
    refine je_imp (je_eqD (d := g t) (e := g t) hr (je_get1 (k := encT (m, t.2)) (P := vD (g t)) hr (rdx (tD us h)) (je_name 1) (je_tupD (ds := [dN m, dN t.2]) (ja_cons (je_ixT (ds := ns.map dN) (d := dN m) (je_name 2) (je_name 3) (at_map dN h1)) (ja1 (je_name 4)))) (fun P' e v K q => ?_) (fun e => ?_) (encT_d8 _)) (je_ixX hr (rdx (tD ts g)) (je_name 0) (je_tupD (ds := [dN t.1, dN t.2]) (ja_cons (je_name 3) (ja1 (je_name 4)))) (lk_at encT_inj' ht) rfl (encT_d8 t)) h4 h4) fun v K q => ?_
    · rw [show lk (tD us h) (encT (m, t.2)) = some (vD (h (m, t.2))) from lk_at encT_inj' h2] at e
      cases e
      rw [h3] at q
      exact q
    · rw [show lk (tD us h) (encT (m, t.2)) = some (vD (h (m, t.2))) from lk_at encT_inj' h2] at e
      cases e
    · rw [decide_eq_true rfl] at q
      exact q
  · rw [List.filter_eq_self.mpr (fun _ _ => rfl)] at h
    rw [List.map_map]; exact h
end
end Lk
end

section
set_option Elab.async false
set_option linter.all false
set_option maxRecDepth 100000
set_option maxHeartbeats 1000000
/-! _law_usable. -/
namespace Lk
open PySem PySem.Spec L2
open PyProof.Rows hiding St
open Evl (Ex)
open M (Bk Rl Mv Vl Wb Wy)
theorem closed_all {b : Bk} {W : Wb} {ts : List Thg} (hc : ∀ t ∈ M.allT b W.length, t ∉ ts → ∀ y ∈ M.ways b W t, ¬ ∀ n ∈ M.needs b W t y, n ∈ ts) : ∀ t, M.Mk b W t → t ∈ ts := by
  rintro t ⟨c, d⟩
  induction d with
  | mk t y cs h1 h2 hy hl _ ih =>
    refine Classical.byContradiction fun hn => hc t (M.mem_allT.mpr ⟨h1, h2⟩) hn y hy fun n hm => ?_
    obtain ⟨i, hi⟩ := List.getElem?_of_mem hm
    have hl' : i < cs.length := by rw [hl]; exact (List.getElem?_eq_some_iff.mp hi).1
    exact ih i n _ hi (List.getElem?_eq_getElem hl')
theorem wd_snoc {ts : List Thg} {fm : Thg → List Wy} {t : Thg} (h : t ∉ ts) : putP (wd ts fm) (encT t) (vL (wysV (fm t))) = wd (ts ++ [t]) fm := by
  unfold wd
  rw [putP_new (lk_out encT_inj' h), List.map_append]
  rfl
theorem allT_succ (b : Bk) (n : Nat) : M.allT b (n + 1) = M.allT b n ++ (List.range b.kn).map fun k => (n, k) := by
  unfold M.allT
  rw [List.range_succ, List.flatMap_append, List.flatMap_singleton]
theorem pair_dec (a b c d : Nat) : decide (NestedKey.tup [dN a, dN b] = .tup [dN c, dN d]) = (decide (a = c) && decide (b = d)) := by
  by_cases h1 : a = c
  · by_cases h2 : b = d
    · subst h1 h2; simp
    · rw [decide_eq_true h1, decide_eq_false h2, decide_eq_false]; · rfl
      intro h
      injection h with h
      injection h with _ h
      injection h with h _
      exact h2 (dN_inj h)
  · rw [decide_eq_false h1, decide_eq_false]; · rfl
    intro h
    injection h with h
    injection h with h _
    exact h1 (dN_inj h)
theorem ftD_len (ts : List Thg) : (ftD ts).length = ts.length := List.length_map ..
theorem ftD_in {ts : List Thg} {t : Thg} : (lk (ftD ts) (encT t)).isSome = decide (t ∈ ts) := by
  by_cases h : t ∈ ts
  · rw [show lk (ftD ts) (encT t) = some (vB true) from lk_at encT_inj' h, decide_eq_true h]; rfl
  · rw [show lk (ftD ts) (encT t) = none from lk_out encT_inj' h, decide_eq_false h]; rfl
theorem ftD_put {ts : List Thg} {t : Thg} : putP (ftD ts) (encT t) (vB true) = ftD (addK ts t) := by
  unfold ftD
  rw [put_any]
  apply List.map_congr_left
  intro x _
  split <;> rfl
section
variable {F : Fm} {X : Cx} {Γ : Ct} {pos pos' : Pos} {e o i : Expr} {p q : Addr} {n : Nat} {rest : List Stmt} {D : PD} {O : OP}
/-- a new thing, put into a dict -/
theorem js_putN {ps : List (Lk.D × VP)} {k : Lk.D} (j : Nat) (hr : Room n X.A) (he : JN F X Γ e O) (ho : ∀ p', JE F X { Γ with own := Γ.own ++ [(p', O)] } o (vE (.ref p))) (hi : ∀ p', JE F X { Γ with own := Γ.own ++ [(p', O)] } i (vD k)) (hl : ps.length < sizeLine)
    (h : ∀ p', JS F X { Γ with own := (Γ.own ++ [(p', O)]).set j (p, oX X.prog X.w (putP ps k (vE (.ref p')))) } rest D) (hj : ∀ p', (Γ.own ++ [(p', O)])[j]? = some (p, oX X.prog X.w ps)) (h8 : k.depth ≤ 8) (ht : isT k = true := by rfl)
    (ha : ∀ v, assign (.Subscript o i pos') X.env v = (do
      let ov ← holding [v] (eval o X.env)
      let iv ← holding [v, ov] (eval i X.env)
      standAt pos'
      holding [v, ov, iv] (setItem ov iv v)
      release [v, ov, iv] []) := by intro _; rfl)
    (hs : swapsWithSole [.Subscript o i pos'] e pos.line X.env = pure false := by rfl) (hw : swappedStores [.Subscript o i pos'] e X.env = pure none := by rfl) (h1 : (assignEach [.Subscript o i pos'] X.env).map (·.2) = [assign (.Subscript o i pos') X.env] := by rfl) :
    JS F X Γ (.Assign [.Subscript o i pos'] e pos :: rest) D :=
  js_st (ps_asg pE (pg_sub pE pE (set_dx2 hr.units) ha) hs hw h1) fun σ H E g1 g2 => he σ H _ g1 fun p' H1 s1 hp ho' => (ho p') σ H1 _ (g1.addOwn hp s1 ho') fun ov H2 s2 p2 => (hi p') σ H2 _ ((g1.addOwn hp s1 ho').go s2) fun iv H3 s3 p3 => by
    have E3 := ((g1.addOwn hp s1 ho').go s2).go s3
    cases (show ov = .ref p from p2)
    obtain ⟨kvs, d1, d2⟩ := own_at E3 (hj p')
    refine ⟨p, kvs, k, F.vw { Γ with own := Γ.own ++ [(p', O)] } H3, rfl, hid_ex _ _, d1, p3, ht, h8, by rw [d2.length]; exact hl, fun H4 hk d3 => ?_⟩
    exact h p' σ H4 E (E3.setOwn (hj p') hk ⟨_, d3, d2.put (P := vE (.ref p')) (v := .ref p') rfl⟩) g2
theorem PX.last {ps : List (Lk.D × VP)} {k : Lk.D} {P P' : VP} {kvs : List (Lk.D × V)} {K : Hp} (h : PX (ps ++ [(k, P)]) kvs K) (hP : ∀ v, P.p v K → P'.p v K) : PX (ps ++ [(k, P')]) kvs K := by
  induction ps generalizing kvs with
  | nil => cases h with | cons a t => cases t; exact .cons (hP _ a) .nil
  | cons x ps ih => cases h with | cons a t => exact .cons a (ih t)
/-- an own list of a dict is left to it -/
theorem js_sink {ps : List (Lk.D × VP)} {k : Lk.D} {ls : List VP} {P : Program} {w : World} (ho : Γ.own = [(q, oX P w (ps ++ [(k, vE (.ref p))])), (p, oL ls)]) (h : JS F X { Γ with own := [(q, oX P w (ps ++ [(k, vL ls)]))] } rest D) : JS F X Γ rest D := js_of (Γ' := { Γ with own := [(q, oX P w (ps ++ [(k, vL ls)]))] }) (fun σ H E => by
  have hj : Γ.own[1]? = some (p, oL ls) := by rw [ho]; rfl
  have sh := E.shown hj
  have E2 := E.drop 1
  have ee : Γ.own.eraseIdx 1 = [(q, oX P w (ps ++ [(k, vE (.ref p))]))] := by rw [ho]; rfl
  rw [ee] at E2 sh
  obtain ⟨kvs, d1, d2⟩ := E2.own _ (List.mem_singleton_self _)
  have := E2.setOwn (H' := H) (j := 0) (p := q) (O' := oX P w (ps ++ [(k, vL ls)])) rfl (fun _ _ => rfl) ⟨kvs, d1, d2.last fun v hv => by cases (show v = .ref p from hv); exact sh⟩
  exact this) h
end
section
variable {P : Program} {w : World} {K : PySem.W.Frag} {mg : Str → Option Value} {base : Heap} {f : Addr} {fd : FuncData} {CB CW CR : Addr}
section
variable {F : Fm} {X : Cx} {Γ : Ct} {b : Bk} {W : Wb} {t : Thg} {y : Wy}
end
/-- what the search for what can be made keeps -/
structure MkI (b : Bk) (W : Wb) (ts : List Thg) : Prop where
  nd : ts.Nodup
  mk_ : ∀ t ∈ ts, M.Mk b W t
theorem MkI.len {b : Bk} {W : Wb} {ts : List Thg} (h : MkI b W ts) : ts.length ≤ (M.U b W).length := M.nodup_len h.nd fun t ht => M.mem_U.mpr (h.mk_ t ht)
theorem MkI.add {b : Bk} {W : Wb} {ts : List Thg} (h : MkI b W ts) {t : Thg} {y : Wy} (h1 : t.1 < W.length) (h2 : t.2 < b.kn) (hy : y ∈ M.ways b W t) (hn : ∀ n ∈ M.needs b W t y, n ∈ ts) : MkI b W (addK ts t) :=
  ⟨addK_nodup h.nd, fun x hx => by
    rcases mem_addK.mp hx with rfl | hx
    · exact ⟨_, M.mk_of h1 h2 hy fun n hm => h.mk_ n (hn n hm)⟩
    · exact h.mk_ x hx⟩
abbrev NU (b : Bk) (W : Wb) (ts : List Thg) (t : Thg) (l : List Wy) : Prop := ∀ y ∈ l, ¬ ∀ n ∈ M.needs b W t y, n ∈ ts
abbrev spLUsable (P : Program) (w : World) : Sp := mkSp (α := Bk × Wb) (fun a _ => a.1.ok ∧ M.Wok a.1 a.2) (fun a => [vD (ptD a.1), vD (rowsD a.2)]) (fun a _ => vX P w (useD a.1 a.2))
theorem fc__law_usable (fr : Free mg) (cn : Fc P w K mg base 1 "_law_needs" spLNeeds) (F : FnP K "_law_usable" s__law_usable f fd) (gm : mg "_law_usable" = some (.ref f)) : Fc P w K mg base 2 "_law_usable" (spLUsable P w) := by
  classical
  refine fc_of F gm sc__law_usable (F.bindsN fun _ _ _ _ _ _ us hl => match us, hl with | [_, _], _ => rfl) (fun _ => rfl) ?_
  rintro ⟨b, W⟩ Fr cdv A outer s E hr ⟨ok, wok⟩
  replace ok : b.ok := ok
  replace wok : M.Wok b W := wok
  have kn5 := ok.kn5
  have w200 := wok.len
  have m20 := ok.mv20
  have r40 := ok.ru40
  have small : W.length * b.kn < sizeLine := Nat.lt_of_le_of_lt (Nat.mul_le_mul w200 kn5) (by decide)
  have ul := U_len (b := b) (W := W)
  have al := M.allT_len b W.length
  refine js_new 2 sc__law_usable.nd jn_dict fun pg => ?_
  refine js_for (fun v Γ => v ≤ W.length ∧ Γ = ⟨[some (vD (ptD b)), some (vD (rowsD W)), some (vE (.ref pg)), none, none, none, none, none, none, none, none, none, none, none], [(pg, oX P w (wd (M.allT b v) (M.ways b W)))], []⟩) rfl rfl
    (ji_range1 (n := W.length) (fr _ (by decide)) (je_imp (je_lenT (ds := W.map vlD) fr (je_name 1)) (fun v K h => by rw [List.length_map] at h; exact h))) ⟨Nat.zero_le _, rfl⟩ ?_ ?_
  · -- a value
    rintro v P' Γ1 hP ⟨hvl, rfl⟩ vv Pc
    rw [List.getElem?_map] at hP
    obtain ⟨j, e1, rfl⟩ := Option.map_eq_some_iff.mp hP
    obtain ⟨hv, e3⟩ := List.getElem?_eq_some_iff.mp e1
    rw [List.getElem_range] at e3
    subst e3
    rw [List.length_range] at hv
    refine ⟨_, _, jg_name 3 sc__law_usable.nd, ?_⟩
    refine js_for (fun k Γ => k ≤ b.kn ∧ Γ = ⟨[some (vD (ptD b)), some (vD (rowsD W)), some (vE (.ref pg)), some (vN v), none, none, none, none, none, none, none, none, none, none], [(pg, oX P w (wd (M.allT b v ++ (List.range k).map fun k => (v, k)) (M.ways b W)))], [(vv, Pc)]⟩) rfl rfl
      (ji_range1 (n := b.kn) (fr _ (by decide)) (je_pKn (je_name 0))) ⟨Nat.zero_le _, by simp [Ct.put]⟩ ?_ ?_
    · -- a kind
      rintro k P' Γ1 hP ⟨hkl, rfl⟩ v2 Pc2
      rw [List.getElem?_map] at hP
      obtain ⟨j, e1, rfl⟩ := Option.map_eq_some_iff.mp hP
      obtain ⟨hk, e3⟩ := List.getElem?_eq_some_iff.mp e1
      rw [List.getElem_range] at e3
      subst e3
      rw [List.length_range] at hk
      refine ⟨_, _, jg_name 4 sc__law_usable.nd, ?_⟩
      refine js_setLc 5 [("_law_at", 6)] (List.range b.mv.length) (fun i => vN i) (fun i => decide ((b.mo i).to = k)) (fun i => vD (wyD (.mv i))) rfl sc__law_usable.nd (blkOk_by (by rfl))
        (ji_range1 (n := b.mv.length) (fr _ (by decide)) (je_imp (je_lenT (ds := b.mv.map mvD) fr (je_pMv (je_name 0))) (fun v K h => by rw [List.length_map] at h; exact h))) (by rw [List.length_range]; exact Nat.lt_of_le_of_lt m20 (by decide)) ?_ (fun p => ?_) (sw_true rfl rfl rfl rfl)
      · intro i hi A' O v' Pc'
        refine jelt1 6 sc__law_usable.nd fun s H0 C cl fp => ⟨jts_one (jt_imp (jt_eqD hr (je_ixT (ds := [dN (b.mo i).frm, dN (b.mo i).to, dN (b.mo i).pr]) (d := dN (b.mo i).to) (je_aMv (je_name 0) (je_name 6) (List.mem_range.mp hi)) je_int rfl) (je_name 4)) fun c h => h.trans (dN_dec _ _)), fun _ => ?_⟩
        exact je_tupD (ds := [.text sMove, dN i]) (ja_cons je_str (ja1 (je_name 6)))
      refine js_for (fun i Γ => Γ = ⟨[some (vD (ptD b)), some (vD (rowsD W)), some (vE (.ref pg)), some (vN v), some (vN k), some (vE (.ref p)), none, none, none, none, none, none, none, none], [(pg, oX P w (wd (M.allT b v ++ (List.range k).map fun k => (v, k)) (M.ways b W))), (p, oL (wysV (((List.range b.mv.length).filter fun n => decide ((b.mo n).to = k)).map Wy.mv ++ ((List.range i).filter fun n => decide ((b.rl n).op = (M.vl W v).op) && decide ((b.rl n).dst = k)).map Wy.ru)))], [(v2, Pc2), (vv, Pc)]⟩) rfl rfl (ji_enD fr (je_pRu (je_name 0))) ?_ ?_ ?_
      · simp [Ct.add, Ct.put, wysV, List.map_map]
        rfl
      · rintro i P' Γ1 hP rfl v3 Pc3
        rw [List.getElem?_map] at hP
        obtain ⟨j, e1, rfl⟩ := Option.map_eq_some_iff.mp hP
        obtain ⟨e2, e3⟩ := List.getElem?_eq_some_iff.mp e1
        rw [List.getElem_range] at e3
        subst e3
        rw [List.length_range, List.length_map] at e2
        have e2 : i < b.ru.length := e2
        have hD : (b.ru.map rlD).getD i .none = rlD (b.rl i) := getD_get (by rw [List.getElem?_map, rl_at e2]; rfl)
        refine ⟨_, _, jg_tup rfl (jgs_cons (jg_name 6 sc__law_usable.nd) (jgs_cons (jg_name 7 sc__law_usable.nd) jgs_nil)), ?_⟩
        rw [hD]
        refine js_ifLast (jt_eqD (d := .tup [dN (b.rl i).op, dN (b.rl i).dst]) (e := .tup [dN (M.vl W v).op, dN k]) hr (je_tupD (ds := [dN (b.rl i).op, dN (b.rl i).dst]) (ja_cons (je_ixT (ds := [dN (b.rl i).op, dTN (b.rl i).src, dN (b.rl i).dst, dN (b.rl i).pr]) (d := dN (b.rl i).op) (je_name 7) je_int rfl) (ja1 (je_ixT (ds := [dN (b.rl i).op, dTN (b.rl i).src, dN (b.rl i).dst, dN (b.rl i).pr]) (d := dN (b.rl i).dst) (je_name 7) je_int rfl)))) (je_tupD (ds := [dN (M.vl W v).op, dN k]) (ja_cons (je_ixT (ds := [dN (M.vl W v).op, dTN (M.vl W v).parts]) (d := dN (M.vl W v).op) (je_aVl (je_name 1) (je_name 3) hv) je_int rfl) (ja1 (je_name 4))))) (fun hb => ?_) fun hb => ?_
        · rw [pair_dec] at hb
          refine js_append 1 (je_name 5) (je_tupD (ds := [.text sRule, dN i]) (ja_cons je_str (ja1 (je_name 6)))) ?_ ?_
          · simp only [wysV, List.length_map, List.length_append]
            have l1 := List.length_filter_le (fun n => decide ((b.mo n).to = k)) (List.range b.mv.length)
            have l2 := List.length_filter_le (fun n => decide ((b.rl n).op = (M.vl W v).op) && decide ((b.rl n).dst = k)) (List.range i)
            rw [List.length_range] at l1 l2
            exact Nat.lt_of_le_of_lt (by omega : _ ≤ 60) (by decide)
          · refine js_nil ⟨_, rfl, (by repeat' first | exact True.intro | refine ⟨fun _ _ h => h, ?_⟩), ?_, rfl⟩
            rw [List.range_succ, List.filter_append, List.filter_cons, ← hb]
            simp [wysV, wyD]
        · rw [pair_dec] at hb
          refine js_nil ⟨_, rfl, (by repeat' first | exact True.intro | refine ⟨fun _ _ h => h, ?_⟩), ?_, rfl⟩
          rw [List.range_succ, List.filter_append, List.filter_cons, ← hb]
          simp
      · rintro Γ' rfl
        refine js_show 5 1 rfl rfl ?_
        have hT : (v, k) ∉ M.allT b v ++ (List.range k).map fun k => (v, k) := fun h => by
          rcases List.mem_append.mp h with h | h
          · exact Nat.lt_irrefl _ (M.mem_allT.mp h).1
          · obtain ⟨j, hj, e⟩ := List.mem_map.mp h
            have := List.mem_range.mp hj
            injection e with _ e
            omega
        refine js_put (k := encT (v, k)) (ps := wd (M.allT b v ++ (List.range k).map fun k => (v, k)) (M.ways b W)) (Pv := vL (wysV (M.ways b W (v, k)))) 0 hr (je_imp (je_name 5) fun v' K h => ?_) (je_name 2) (je_tupD (ds := [dN v, dN k]) (ja_cons (je_name 3) (ja1 (je_name 4)))) ?_ ?_ rfl rfl (encT_d8 _)
        · have h : (vL _).p v' K := h
          simp only [List.length_map, List.length_range] at h
          exact h
        · rw [wd_len, List.length_append, M.allT_len, List.length_map, List.length_range]
          exact Nat.lt_of_le_of_lt (Nat.add_le_add (Nat.mul_le_mul (Nat.le_trans (Nat.le_of_lt hv) w200) kn5) (Nat.le_trans (Nat.le_of_lt hk) kn5)) (by decide)
        · refine js_nil ⟨_, ⟨hk, rfl⟩, (by repeat' first | exact True.intro | refine ⟨fun _ _ h => h, ?_⟩), ?_, rfl⟩
          show [(pg, oX P w (putP (wd _ _) (encT (v, k)) (vL (wysV (M.ways b W (v, k))))))] = _
          rw [wd_snoc hT, List.range_succ, List.map_append, List.append_assoc]
          rfl
    · rintro Γ' ⟨_, rfl⟩
      refine js_nil ⟨_, ⟨hv, rfl⟩, (by repeat' first | exact True.intro | refine ⟨fun _ _ h => h, ?_⟩), ?_, rfl⟩
      rw [List.length_map, List.length_range, allT_succ]
  · rintro Γ' ⟨_, rfl⟩
    rw [List.length_map, List.length_range]
    refine js_show 2 0 rfl rfl ?_
    refine js_new 8 sc__law_usable.nd jn_dict fun pm => ?_
    refine js_set (P := vB true) 9 sc__law_usable.nd je_bl ?_
    refine js_while (fun m Γ => ∃ ts gr, MkI b W ts ∧ (gr = false → ∀ t ∈ M.allT b W.length, t ∉ ts → NU b W ts t (M.ways b W t)) ∧ m = (M.U b W).length - ts.length + (if gr = true then 1 else 0) ∧ Γ = ⟨[some (vD (ptD b)), some (vD (rowsD W)), some (vX P w (wd (M.allT b W.length) (M.ways b W))), none, none, none, none, none, some (vE (.ref pm)), some (vB gr), none, none, none, none], [(pm, oX P w (ftD ts))], []⟩) rfl
      (m0 := (M.U b W).length - 0 + 1) ⟨[], true, ⟨List.nodup_nil, fun t h => (nomatch h)⟩, fun z => (nomatch z), rfl, rfl⟩ ?_
    rintro m Γ1 ⟨ts0, gr0, hI0, hc0, rfl, rfl⟩
    refine ⟨(· = gr0), jt_val (je_name 9), fun hb => ?_, fun hb => ?_⟩
    · subst hb
      refine js_set (P := vB false) 9 sc__law_usable.nd je_bl ?_
      refine js_for (fun i Γ => i ≤ (M.allT b W.length).length ∧ ∃ ts gr, MkI b W ts ∧ (gr = false → ts = ts0 ∧ ∀ t ∈ (M.allT b W.length).take i, t ∉ ts0 → NU b W ts0 t (M.ways b W t)) ∧ (gr = true → ts0.length < ts.length) ∧ Γ = ⟨[some (vD (ptD b)), some (vD (rowsD W)), some (vX P w (wd (M.allT b W.length) (M.ways b W))), none, none, none, none, none, some (vE (.ref pm)), some (vB gr), none, none, none, none], [(pm, oX P w (ftD ts))], []⟩) rfl rfl
        (ji_imp (Ps' := (M.allT b W.length).map fun t => vD (encT t)) (ji_keysX (je_name 2)) (by unfold wd; rw [List.map_map]; rfl)) ⟨Nat.zero_le _, ts0, false, hI0, fun _ => ⟨rfl, fun t h => (nomatch h)⟩, fun z => (nomatch z), rfl⟩ ?_ ?_
      · rintro i P' Γ1 hP ⟨hi, ts, gr, hI, hF, hG, rfl⟩ vv Pc
        have hP : ((M.allT b W.length).map fun t => vD (encT t))[i]? = some P' := hP
        rw [List.getElem?_map] at hP
        obtain ⟨t, e1, rfl⟩ := Option.map_eq_some_iff.mp hP
        have hi2 := (List.getElem?_eq_some_iff.mp e1).1
        have htT : t ∈ M.allT b W.length := List.mem_of_getElem? e1
        obtain ⟨ht1, ht2⟩ := M.mem_allT.mp htT
        have take1 : ∀ x, x ∈ (M.allT b W.length).take (i + 1) → x ∈ (M.allT b W.length).take i ∨ x = t := fun z hz => by
          rw [List.take_succ, e1] at hz
          rcases List.mem_append.mp hz with h | h
          · exact .inl h
          · exact .inr (by simpa using h)
        refine ⟨_, _, jg_name 10 sc__law_usable.nd, ?_⟩
        refine js_for (fun j Γ => ∃ ts2 gr2, MkI b W ts2 ∧ (gr2 = false → gr = false) ∧ (gr2 = false → t ∉ ts0 → NU b W ts0 t ((M.ways b W t).take j)) ∧ (gr2 = false → ts2 = ts0 ∧ ∀ t ∈ (M.allT b W.length).take i, t ∉ ts0 → NU b W ts0 t (M.ways b W t)) ∧ (gr2 = true → ts0.length < ts2.length) ∧ Γ = ⟨[some (vD (ptD b)), some (vD (rowsD W)), some (vX P w (wd (M.allT b W.length) (M.ways b W))), none, none, none, none, none, some (vE (.ref pm)), some (vB gr2), some (vD (encT t)), none, none, none], [(pm, oX P w (ftD ts2))], [(vv, Pc)]⟩) (Ps := wysV (if t ∉ ts then M.ways b W t else [])) rfl rfl
          (ji_lst (je_if (jt_notIn (r := decide (t ∉ ts)) hr (rdxO (ps := ftD ts) 0) (je_name 10) (je_name 8) (by rw [ftD_in]; simp) (encT_d8 t)) (fun hb => by
            rw [if_pos (of_decide_eq_true hb.symm)]
            exact je_ixX hr (rdx (wd (M.allT b W.length) (M.ways b W))) (je_name 2) (je_name 10) (wd_some htT) rfl (encT_d8 t)) fun hb => by
            rw [if_neg (of_decide_eq_false hb.symm)]
            exact je_new (jn_lst ja_nil))) ⟨ts, gr, hI, id, fun _ _ y hy => (nomatch hy), hF, hG, rfl⟩ ?_ ?_
        · rintro j P' Γ1 hP ⟨ts2, gr2, hI2, hgg, hW2, hF2, hG2, rfl⟩ v2 Pc2
          by_cases hts : t ∈ ts
          · rw [if_neg (fun z => z hts)] at hP; exact nomatch hP
          rw [if_pos hts, List.getElem?_map] at hP
          obtain ⟨y, e4, rfl⟩ := Option.map_eq_some_iff.mp hP
          have hy : y ∈ M.ways b W t := List.mem_of_getElem? e4
          have hnd : Nd b W t y := ⟨ok, wok, ht1, hy⟩
          have takeY : ∀ z, z ∈ (M.ways b W t).take (j + 1) → z ∈ (M.ways b W t).take j ∨ z = y := fun z hz => by
            rw [List.take_succ, e4] at hz
            rcases List.mem_append.mp hz with h | h
            · exact .inl h
            · exact .inr (by simpa using h)
          refine ⟨_, _, jg_name 11 sc__law_usable.nd, ?_⟩
          refine js_ifLast (B := (· = ((M.needs b W t y).map fun n => decide (n ∈ ts2)).all id)) (jt_val (je_all rfl fr (je_imp (je_new (jn_lc [("_law_need", 13)] (M.needs b W t y) (fun n => vD (encT n)) (fun _ => true) (fun n => vB (decide (n ∈ ts2))) rfl sc__law_usable.nd (blkOk_by (by rfl)) (ji_lst (je_call cn (hr.mono (by decide)) (b, W, t, y) hnd (ja_cons (je_name 0) (ja_cons (je_name 1) (ja_cons (je_name 10) (ja1 (je_name 11))))) (fun _ _ _ h => h))) (Nat.lt_of_le_of_lt (needs_len hnd) (by decide)) ?_)) fun v K h => ?_))) (fun hb => ?_) fun hb => ?_
          · intro n hm A' O v' Pc'
            exact jelt1 13 sc__law_usable.nd fun s H0 C cl fp => ⟨jts_nil, fun _ => je_in hr (rdxO (ps := ftD ts2) 0) (je_name 13) (je_name 8) ftD_in (encT_d8 n)⟩
          · rw [List.filter_eq_self.mpr (fun _ _ => rfl)] at h
            rw [List.map_map]; exact h
          · have hall : ∀ n ∈ M.needs b W t y, n ∈ ts2 := fun n hn => by
              have := hb.symm
              rw [List.all_map, List.all_eq_true] at this
              exact of_decide_eq_true (this n hn)
            have hI3 := hI2.add ht1 ht2 hy hall
            refine js_put (k := encT t) (ps := ftD ts2) 0 hr je_bl (je_name 8) (je_name 10) (by rw [ftD_len]; exact Nat.lt_of_le_of_lt (Nat.le_trans hI2.len ul) small) ?_ rfl rfl (encT_d8 t)
            rw [ftD_put]
            refine js_set (P := vB true) 9 sc__law_usable.nd je_bl ?_
            refine js_nil ⟨_, ⟨addK ts2 t, true, hI3, fun z => (nomatch z), fun z => (nomatch z), fun z => (nomatch z), fun _ => ?_, rfl⟩, (by repeat' first | exact True.intro | refine ⟨fun _ _ h => h, ?_⟩), rfl, rfl⟩
            cases gr2 with
            | true =>
              refine Nat.lt_of_lt_of_le (hG2 rfl) ?_
              unfold addK
              split
              · exact Nat.le_refl _
              · rw [List.length_append]; exact Nat.le_add_right _ _
            | false =>
              have hg := hgg rfl
              have e1 := (hF hg).1
              have e2 := (hF2 rfl).1
              rw [e2]
              unfold addK
              rw [if_neg (by rw [← e1]; exact hts), List.length_append]
              exact Nat.lt_succ_self _
          · have hnall : ¬ ∀ n ∈ M.needs b W t y, n ∈ ts2 := fun z => by
              have := hb.symm
              rw [List.all_map, List.all_eq_false] at this
              obtain ⟨n, hn, hne⟩ := this
              exact hne (decide_eq_true (z n hn))
            refine js_nil ⟨_, ⟨ts2, gr2, hI2, hgg, fun hg hn0 y' hy' => ?_, hF2, hG2, rfl⟩, (by repeat' first | exact True.intro | refine ⟨fun _ _ h => h, ?_⟩), rfl, rfl⟩
            rcases takeY y' hy' with h | rfl
            · exact hW2 hg hn0 y' h
            · rw [← (hF2 hg).1]; exact hnall
        · rintro Γ' ⟨ts2, gr2, hI2, hgg, hW2, hF2, hG2, rfl⟩
          refine js_nil ⟨_, ⟨hi2, ts2, gr2, hI2, fun hg => ⟨(hF2 hg).1, fun x hx hn0 => ?_⟩, hG2, rfl⟩, (by repeat' first | exact True.intro | refine ⟨fun _ _ h => h, ?_⟩), rfl, rfl⟩
          rcases take1 x hx with h | rfl
          · exact (hF2 hg).2 x h hn0
          · have hnt : x ∉ ts := by rw [(hF (hgg hg)).1]; exact hn0
            have := hW2 hg hn0
            rw [if_pos hnt, List.length_map, List.take_length] at this
            exact this
      · rintro Γ' ⟨_, ts, gr, hI, hF, hG, rfl⟩
        have hlen : ((wd (M.allT b W.length) (M.ways b W)).map fun q => vD q.1).length = (M.allT b W.length).length := by rw [List.length_map, wd_len]
        have hle := hI.len
        refine js_nil ⟨(M.U b W).length - ts.length + (if gr = true then 1 else 0), _, ?_, ⟨ts, gr, hI, fun hg t ht hn => ?_, rfl, rfl⟩, (by repeat' first | exact True.intro | refine ⟨fun _ _ h => h, ?_⟩), rfl, rfl⟩
        · cases gr with
          | true => have := hG rfl; rw [if_pos rfl]; omega
          | false => rw [(hF rfl).1, if_pos rfl, if_neg (fun z => nomatch z)]; exact Nat.lt_succ_self _
        · obtain ⟨e1, e2⟩ := hF hg
          subst e1
          refine e2 t ?_ hn
          rw [List.take_of_length_le (by simp)]
          exact ht
    · subst hb
      have mem : ∀ t, t ∈ ts0 ↔ t ∈ M.U b W := fun t => ⟨fun h => M.mem_U.mpr (hI0.mk_ t h), fun h => closed_all (hc0 rfl) t (M.mem_U.mp h)⟩
      have es : srt ts0 = M.U b W := srt_eq mem hI0.nd (M.U_sorted b W)
      have hdec : ∀ (t : Thg) (y : Wy), ((M.needs b W t y).map fun n => decide (n ∈ ts0)).all id = decide (∀ n ∈ M.needs b W t y, M.Mk b W n) := fun t y => by
        rw [List.all_map]
        by_cases h : ∀ n ∈ M.needs b W t y, M.Mk b W n
        · rw [decide_eq_true h, List.all_eq_true]
          exact fun n hn => decide_eq_true ((mem n).mpr (M.mem_U.mpr (h n hn)))
        · rw [decide_eq_false h, List.all_eq_false]
          refine Classical.byContradiction fun z => h fun n hn => ?_
          refine Classical.byContradiction fun z2 => z ⟨n, hn, fun z3 => z2 (M.mem_U.mp ((mem n).mp (of_decide_eq_true z3)))⟩
      refine js_show 8 0 rfl rfl ?_
      refine js_new 12 sc__law_usable.nd jn_dict fun pf => ?_
      refine js_for (fun i Γ => i ≤ (M.U b W).length ∧ Γ = ⟨[some (vD (ptD b)), some (vD (rowsD W)), some (vX P w (wd (M.allT b W.length) (M.ways b W))), none, none, none, none, none, some (vX P w (ftD ts0)), some (vB false), none, none, some (vE (.ref pf)), none], [(pf, oX P w (wd ((M.U b W).take i) (M.usable b W)))], []⟩) rfl rfl
        (ji_lst (je_imp (je_new (jn_sortL (ts := ts0) hr fr (rdl _) (je_imp (je_new (jn_listX rfl fr (rdy (ftD ts0)) (je_name 8))) fun v K h => by
          have e : (ftD ts0).map (fun q => vD q.1) = ts0.map fun t => vD (encT t) := by unfold ftD; rw [List.map_map]; rfl
          rw [e] at h
          exact h))) fun v K h => by rw [es] at h; exact h)) ⟨Nat.zero_le _, rfl⟩ ?_ ?_
      · rintro i P' Γ1 hP ⟨hi, rfl⟩ vv Pc
        rw [List.getElem?_map] at hP
        obtain ⟨t, e1, rfl⟩ := Option.map_eq_some_iff.mp hP
        have hi2 := (List.getElem?_eq_some_iff.mp e1).1
        have htU : t ∈ M.U b W := List.mem_of_getElem? e1
        have htm := M.mem_U.mp htU
        have hnt : t ∉ (M.U b W).take i := fun h => by
          obtain ⟨j, hj⟩ := List.getElem?_of_mem h
          have hj1 := (List.getElem?_eq_some_iff.mp hj).1
          rw [List.length_take] at hj1
          rw [List.getElem?_take_of_lt (by omega)] at hj
          have hj2 := (List.getElem?_eq_some_iff.mp hj).1
          have := (List.getElem?_inj hj2 (M.U_nodup b W)).mp (hj.trans e1.symm)
          omega
        have hlk : lk (wd ((M.U b W).take i) (M.usable b W)) (encT t) = none := lk_out encT_inj' hnt
        refine ⟨_, _, jg_name 10 sc__law_usable.nd, ?_⟩
        refine js_putN (O := oL []) (k := encT t) (ps := wd ((M.U b W).take i) (M.usable b W)) 0 hr (jn_lst ja_nil) (fun p' => je_name 12) (fun p' => je_name 10) ?_ (fun p' => ?_) (fun p' => rfl) (encT_d8 t) rfl
        · rw [wd_len, List.length_take]; exact Nat.lt_of_le_of_lt (Nat.le_trans (Nat.min_le_right _ _) ul) small
        rw [putP_new hlk]
        refine js_for (fun j Γ => Γ = ⟨[some (vD (ptD b)), some (vD (rowsD W)), some (vX P w (wd (M.allT b W.length) (M.ways b W))), none, none, none, none, none, some (vX P w (ftD ts0)), some (vB false), some (vD (encT t)), none, some (vE (.ref pf)), none], [(pf, oX P w (wd ((M.U b W).take i) (M.usable b W) ++ [(encT t, vE (.ref p'))])), (p', oL (wysV (((M.ways b W t).take j).filter fun y => decide (∀ n ∈ M.needs b W t y, M.Mk b W n))))], [(vv, Pc)]⟩) rfl rfl
          (ji_lst (je_ixX hr (rdx (wd (M.allT b W.length) (M.ways b W))) (je_name 2) (je_name 10) (wd_some (M.mem_allT.mpr htm.val)) rfl (encT_d8 t))) rfl ?_ ?_
        · rintro j P' Γ1 hP rfl v2 Pc2
          rw [List.getElem?_map] at hP
          obtain ⟨y, e4, rfl⟩ := Option.map_eq_some_iff.mp hP
          have hy : y ∈ M.ways b W t := List.mem_of_getElem? e4
          have hnd : Nd b W t y := ⟨ok, wok, htm.val.1, hy⟩
          have hj := (List.getElem?_eq_some_iff.mp e4).1
          refine ⟨_, _, jg_name 11 sc__law_usable.nd, ?_⟩
          refine js_ifLast (B := (· = ((M.needs b W t y).map fun n => decide (n ∈ ts0)).all id)) (jt_val (je_all rfl fr (je_imp (je_new (jn_lc [("_law_need", 13)] (M.needs b W t y) (fun n => vD (encT n)) (fun _ => true) (fun n => vB (decide (n ∈ ts0))) rfl sc__law_usable.nd (blkOk_by (by rfl)) (ji_lst (je_call cn (hr.mono (by decide)) (b, W, t, y) hnd (ja_cons (je_name 0) (ja_cons (je_name 1) (ja_cons (je_name 10) (ja1 (je_name 11))))) (fun _ _ _ h => h))) (Nat.lt_of_le_of_lt (needs_len hnd) (by decide)) ?_)) fun v K h => ?_))) (fun hb => ?_) fun hb => ?_
          · intro n hm A' O v' Pc'
            exact jelt1 13 sc__law_usable.nd fun s H0 C cl fp => ⟨jts_nil, fun _ => je_in hr (rdx (ftD ts0)) (je_name 13) (je_name 8) ftD_in (encT_d8 n)⟩
          · rw [List.filter_eq_self.mpr (fun _ _ => rfl)] at h
            rw [List.map_map]; exact h
          · rw [hdec] at hb
            refine js_append (p := p') (ls := wysV (((M.ways b W t).take j).filter fun y => decide (∀ n ∈ M.needs b W t y, M.Mk b W n))) 1 (je_ixX hr (rdxO (ps := wd ((M.U b W).take i) (M.usable b W) ++ [(encT t, vE (.ref p'))]) 0) (je_name 12) (je_name 10) (by rw [lk_app_new, hlk, if_pos rfl]; rfl) rfl (encT_d8 t)) (je_name 11) ?_ ?_
            · rw [List.length_map]
              refine Nat.lt_of_le_of_lt (List.length_filter_le _ _) ?_
              rw [List.length_take]
              exact Nat.lt_of_le_of_lt (Nat.le_trans (Nat.min_le_right _ _) (ways_len ok _ _)) (by decide)
            · refine js_nil ⟨_, rfl, (by repeat' first | exact True.intro | refine ⟨fun _ _ h => h, ?_⟩), ?_, rfl⟩
              rw [List.take_succ, e4, List.filter_append]
              simp only [Option.toList_some, List.filter_cons, ← hb, if_true, List.filter_nil, wysV, List.map_append]
              rfl
          · rw [hdec] at hb
            refine js_nil ⟨_, rfl, (by repeat' first | exact True.intro | refine ⟨fun _ _ h => h, ?_⟩), ?_, rfl⟩
            rw [List.take_succ, e4, List.filter_append]
            simp only [Option.toList_some, List.filter_cons, ← hb, List.filter_nil, wysV, List.map_append]
            simp
        · rintro Γ' rfl
          refine js_sink rfl ?_
          refine js_nil ⟨_, ⟨hi2, rfl⟩, (by repeat' first | exact True.intro | refine ⟨fun _ _ h => h, ?_⟩), ?_, rfl⟩
          have e5 : (((M.ways b W t).take (wysV (M.ways b W t)).length).filter fun y => decide (∀ n ∈ M.needs b W t y, M.Mk b W n)) = M.usable b W t := by
            rw [List.length_map, List.take_length]; rfl
          rw [e5, List.take_succ, e1]
          unfold wd
          rw [List.map_append]
          rfl
      · rintro Γ' ⟨_, rfl⟩
        rw [List.length_map, List.take_length]
        refine js_show 12 0 rfl rfl (js_ret (je_name 12) fun v K h => ?_)
        exact h
end
end Lk
end

section
set_option Elab.async false
set_option linter.all false
set_option maxRecDepth 100000
set_option maxHeartbeats 1000000
/-! _law_alone. -/
namespace Lk
open PySem PySem.Spec L2
open PyProof.Rows hiding St
open Evl (Ex)
open M (Bk Rl Mv Vl Wb Wy)
open M (PI Exa totO lkO btr)
/-! ### the least of (whole, price, way) -/
noncomputable def trD (b : Bk) (W : Wb) (t : Thg) (y : Wy) : D := .tup [dN (M.tot b W (M.opt b W) t y), dN (M.price b y), wyD y]
noncomputable def trLt (b : Bk) (W : Wb) (t : Thg) (x y : Wy) : Bool := decide (M.tot b W (M.opt b W) t x < M.tot b W (M.opt b W) t y) || (decide (M.tot b W (M.opt b W) t x = M.tot b W (M.opt b W) t y) && M.pwLt b x y)
theorem lt_cons_eq {a : PyData} {xs ys : List PyData} (h : PySem.W.alike a a = true) (e : PyData.eqv a a = true) : PySem.W.dataLt (.tuple (a :: xs)) (.tuple (a :: ys)) = PySem.W.dataLt (.tuple xs) (.tuple ys) := by
  rw [PySem.W.dataLt_tuple, PySem.W.dataLt_tuple]
  exact PySem.W.dataLt_all_yes h e
theorem tr_lt (b : Bk) (W : Wb) (t : Thg) (x y : Wy) : PySem.W.dataLt (trD b W t x).data (trD b W t y).data = trLt b W t x y := by
  unfold trLt
  by_cases h : M.tot b W (M.opt b W) t x = M.tot b W (M.opt b W) t y
  · rw [decide_eq_true h, decide_eq_false (by omega), Bool.false_or, Bool.true_and]
    have : (trD b W t x).data = .tuple [.int ((M.tot b W (M.opt b W) t y : Nat) : Int), .int ((M.price b x : Nat) : Int), (wyD x).data] := by rw [← h]; rfl
    rw [this]
    exact (lt_cons_eq rfl (by rw [eqv_int]; exact decide_eq_true rfl)).trans (pw_lt b x y)
  · rw [decide_eq_false h, Bool.false_and, Bool.or_false]
    refine (lt_pair_ne rfl ((data_eq (dN (M.tot b W (M.opt b W) t x)) (dN (M.tot b W (M.opt b W) t y))).trans ((dN_dec _ _).trans (decide_eq_false h)))).trans ?_
    show PySem.W.dataLt (.int ((M.tot b W (M.opt b W) t x : Nat) : Int)) (.int ((M.tot b W (M.opt b W) t y : Nat) : Int)) = _
    rw [PySem.W.dataLt_int]
    exact decide_eq_decide.mpr (by omega)
theorem pw_irr (b : Bk) (x : Wy) : M.pwLt b x x = false := by
  cases e : M.pwLt b x x with
  | false => rfl
  | true => rw [M.pwLt_asym e] at e; cases e
theorem least_tr {b : Bk} {W : Wb} {t : Thg} {a : Wy} {l : List Wy} (ht : M.Mk b W t) (h : a :: l = M.usable b W t) : M.leastOf (trLt b W t) a l = M.ownW b W t := by
  have hm : ∀ y, y ∈ a :: l ↔ y ∈ M.usable b W t := fun y => by rw [h]
  obtain ⟨h1, h2⟩ := M.least_ok (lt := trLt b W t) (fun x => by unfold trLt; rw [pw_irr]; simp) (fun x y z p q => by
    unfold trLt at *
    simp only [Bool.or_eq_true, Bool.and_eq_true, decide_eq_true_eq] at *
    rcases p with p | ⟨p, p2⟩ <;> rcases q with q | ⟨q, q2⟩
    · exact .inl (by omega)
    · exact .inl (by omega)
    · exact .inl (by omega)
    · exact .inr ⟨by omega, M.pwLt_trans p2 q2⟩) (fun x y => by
    unfold trLt
    simp only [Bool.or_eq_true, Bool.and_eq_true, decide_eq_true_eq]
    rcases Nat.lt_trichotomy (M.tot b W (M.opt b W) t x) (M.tot b W (M.opt b W) t y) with z | z | z
    · exact .inl (.inl z)
    · rcases M.pwLt_tri b x y with u | u | u
      · exact .inl (.inr ⟨z, u⟩)
      · exact .inr (.inl u)
      · exact .inr (.inr (.inr ⟨z.symm, u⟩))
    · exact .inr (.inr (.inl z))) l a
  generalize M.leastOf (trLt b W t) a l = m at h1 h2
  have hmu := (hm m).mp h1
  have h3 := (M.opt_sol b W).le t ht m hmu
  obtain ⟨y, hy, ey⟩ := (M.opt_sol b W).at_ t ht
  have h4 : M.tot b W (M.opt b W) t m = M.opt b W t := by
    have := h2 y ((hm y).mpr hy)
    unfold trLt at this
    rw [Bool.or_eq_false_iff] at this
    have := of_decide_eq_false this.1
    omega
  refine M.Own.uniq ⟨hmu, h4, fun z hz ez => ?_⟩ (M.ownW_own ht)
  have := h2 z ((hm z).mpr hz)
  unfold trLt at this
  rw [Bool.or_eq_false_iff, ez, h4, decide_eq_true rfl, Bool.true_and] at this
  exact this.2
theorem tr_alike (b : Bk) (W : Wb) (t : Thg) (l : List Wy) : PySem.W.AlikeAll ((l.map (trD b W t)).map NestedKey.data) := by
  refine ⟨fun x hx y hy => ?_, fun x hx => ?_⟩
  · obtain ⟨d, hd, rfl⟩ := List.mem_map.mp hx
    obtain ⟨x, _, rfl⟩ := List.mem_map.mp hd
    obtain ⟨e, he, rfl⟩ := List.mem_map.mp hy
    obtain ⟨y, _, rfl⟩ := List.mem_map.mp he
    cases x <;> cases y <;> rfl
  · obtain ⟨d, hd, rfl⟩ := List.mem_map.mp hx
    obtain ⟨x, _, rfl⟩ := List.mem_map.mp hd
    exact fun z => nomatch z
theorem trD_fn (b : Bk) (W : Wb) (t : Thg) (y : Wy) : Fn 2 (trD b W t y) := Fn.tup (n := 1) (all_cons (.num _) (all_cons (.num _) (all_cons (wyD_fn y) all_nil)))
/-! ### how many prices are not yet the least -/
open Classical in
noncomputable def inx (b : Bk) (W : Wb) (ts : List Thg) (q : Thg → Nat) : Nat := ((M.U b W).filter fun t => decide (¬ Exa b W ts q t)).length
theorem filter_sub {α : Type} {p q : α → Bool} : ∀ {l : List α}, (∀ x ∈ l, p x = true → q x = true) → (l.filter p).length ≤ (l.filter q).length
  | [], _ => Nat.le_refl _
  | a :: l, h => by
    have ih := filter_sub (l := l) fun x hx => h x (List.mem_cons_of_mem _ hx)
    rw [List.filter_cons, List.filter_cons]
    cases e : p a with
    | true => rw [h a (List.mem_cons_self ..) e, if_pos rfl, if_pos rfl]; exact Nat.succ_le_succ ih
    | false =>
      rw [if_neg (fun z => nomatch z)]
      split
      · exact Nat.le_succ_of_le ih
      · exact ih
theorem filter_lt {α : Type} {p q : α → Bool} : ∀ {l : List α} {y : α}, (∀ x ∈ l, p x = true → q x = true) → y ∈ l → p y = false → q y = true → (l.filter p).length < (l.filter q).length
  | a :: l, y, h, hy, h1, h2 => by
    rw [List.filter_cons, List.filter_cons]
    rcases List.mem_cons.mp hy with e | hy
    · subst e
      rw [h1, h2, if_neg (fun z => nomatch z), if_pos rfl]
      exact Nat.lt_succ_of_le (filter_sub fun x hx => h x (List.mem_cons_of_mem _ hx))
    · have ih := filter_lt (l := l) (fun x hx => h x (List.mem_cons_of_mem _ hx)) hy h1 h2
      cases e : p a with
      | true => rw [h a (List.mem_cons_self ..) e, if_pos rfl, if_pos rfl]; exact Nat.succ_lt_succ ih
      | false =>
        rw [if_neg (fun z => nomatch z)]
        split
        · exact Nat.lt_succ_of_lt ih
        · exact ih
abbrev Rdy (b : Bk) (W : Wb) (ts : List Thg) (q : Thg → Nat) (t : Thg) : Prop := ∀ n ∈ M.needs b W t (M.ownW b W t), Exa b W ts q n
theorem all_exact {b : Bk} {W : Wb} (ok : b.ok) {ts : List Thg} {q : Thg → Nat} (h : ∀ t, M.Mk b W t → Rdy b W ts q t → Exa b W ts q t) : ∀ t, M.Mk b W t → Exa b W ts q t := by
  suffices hs : ∀ k t, M.opt b W t ≤ k → M.Mk b W t → Exa b W ts q t from fun t ht => hs _ t (Nat.le_refl _) ht
  intro k
  induction k with
  | zero =>
    intro t hk ht
    have := M.opt_pos ok ht
    omega
  | succ k ih =>
    intro t hk ht
    have ho := M.ownW_own ht
    refine h t ht fun n hn => ih n ?_ ((M.mem_usable.mp ho.1).2 n hn)
    have := M.opt_lt ok ho.1 ho.2.1 hn
    omega
theorem inx_lt {b : Bk} {W : Wb} {ts ts' : List Thg} {q q' : Thg → Nat} (ok : b.ok) (mono : ∀ x, Exa b W ts q x → Exa b W ts' q' x) (hv : ∀ t, M.Mk b W t → Rdy b W ts q t → Exa b W ts' q' t) (hx : ∃ x, M.Mk b W x ∧ ¬ Exa b W ts q x) : inx b W ts' q' < inx b W ts q := by
  classical
  have : ∃ t, M.Mk b W t ∧ Rdy b W ts q t ∧ ¬ Exa b W ts q t := Classical.byContradiction fun z => by
    obtain ⟨x, h1, h2⟩ := hx
    exact h2 (all_exact ok (fun t ht hr => Classical.byContradiction fun z2 => z ⟨t, ht, hr, z2⟩) x h1)
  obtain ⟨t, h1, h2, h3⟩ := this
  unfold inx
  refine filter_lt (y := t) (fun x _ hp => ?_) (M.mem_U.mpr h1) ?_ ?_
  · have hp := of_decide_eq_true hp
    exact decide_eq_true fun z => hp (mono x z)
  · exact decide_eq_false fun z => z (hv t h1 h2)
  · exact decide_eq_true h3
section
variable {P : Program} {w : World} {K : PySem.W.Frag} {mg : Str → Option Value} {base : Heap} {f : Addr} {fd : FuncData} {CB CW CR : Addr}
/-- what a pass keeps -/
structure PP (b : Bk) (W : Wb) (ts0 : List Thg) (q0 : Thg → Nat) (ts : List Thg) (q : Thg → Nat) (gr : Bool) : Prop where
  pi : PI b W ts q
  mono : ∀ x, Exa b W ts0 q0 x → Exa b W ts q x
  same : gr = false → ts = ts0 ∧ q = q0
  some_ : gr = true → ∃ x, M.Mk b W x ∧ ¬ Exa b W ts0 q0 x
abbrev spLAlone (P : Program) (w : World) : Sp := mkSp (α := Bk × Wb) (fun a _ => a.1.ok ∧ M.Wok a.1 a.2) (fun a => [vD (ptD a.1), vD (rowsD a.2), vX P w (useD a.1 a.2)]) (fun a _ => vEx fun ts : List Thg => vAnd (ts.Nodup ∧ ∀ t, t ∈ ts ↔ M.Mk a.1 a.2 t) (vT [vX P w (pd ts (M.opt a.1 a.2)), vX P w (owD a.1 a.2)]))
theorem fc__law_alone (fr : Free mg) (cn : Fc P w K mg base 1 "_law_needs" spLNeeds) (cp : Fc P w K mg base 1 "_law_price" spLPrice) (F : FnP K "_law_alone" s__law_alone f fd) (gm : mg "_law_alone" = some (.ref f)) : Fc P w K mg base 2 "_law_alone" (spLAlone P w) := by
  classical
  refine fc_of F gm sc__law_alone (F.bindsN fun _ _ _ _ _ _ us hl => match us, hl with | [_, _, _], _ => rfl) (fun _ => rfl) ?_
  rintro ⟨b, W⟩ Fr cdv A outer s E hr ⟨ok, wok⟩
  replace ok : b.ok := ok
  replace wok : M.Wok b W := wok
  have kn5 := ok.kn5
  have w200 := wok.len
  have small : W.length * b.kn < sizeLine := Nat.lt_of_le_of_lt (Nat.mul_le_mul w200 kn5) (by decide)
  have ul := U_len (b := b) (W := W)
  have keysU : (useD b W).map (fun q => vD q.1) = (M.U b W).map fun t => vD (encT t) := by
    unfold useD wd
    rw [List.map_map]
    rfl
  refine js_new 3 sc__law_alone.nd jn_dict fun pp => ?_
  refine js_set (P := vB true) 4 sc__law_alone.nd je_bl ?_
  refine js_while (fun m Γ => ∃ ts q gr, PI b W ts q ∧ (gr = false → ∀ t, M.Mk b W t → Exa b W ts q t) ∧ m = inx b W ts q + (if gr = true then 1 else 0) ∧ Γ = ⟨[some (vD (ptD b)), some (vD (rowsD W)), some (vX P w (useD b W)), some (vE (.ref pp)), some (vB gr), none, none, none, none, none, none, none, none], [(pp, oX P w (pd ts q))], []⟩) rfl
    (m0 := inx b W [] (fun _ => 0) + 1) ⟨[], fun _ => 0, true, ⟨List.nodup_nil, fun t h => (nomatch h)⟩, fun z => (nomatch z), rfl, rfl⟩ ?_
  rintro m Γ1 ⟨ts0, q0, gr0, hP0, hc0, rfl, rfl⟩
  refine ⟨(· = gr0), jt_val (je_name 4), fun hb => ?_, fun hb => ?_⟩
  · subst hb
    refine js_set (P := vB false) 4 sc__law_alone.nd je_bl ?_
    refine js_for (fun i Γ => i ≤ (M.U b W).length ∧ ∃ ts q gr, PP b W ts0 q0 ts q gr ∧ (∀ t ∈ (M.U b W).take i, Rdy b W ts0 q0 t → Exa b W ts q t) ∧ Γ = ⟨[some (vD (ptD b)), some (vD (rowsD W)), some (vX P w (useD b W)), some (vE (.ref pp)), some (vB gr), none, none, none, none, none, none, none, none], [(pp, oX P w (pd ts q))], []⟩) rfl rfl
      (ji_imp (ji_keysX (je_name 2)) keysU) ⟨Nat.zero_le _, ts0, q0, false, ⟨hP0, fun _ h => h, fun _ => ⟨rfl, rfl⟩, fun z => (nomatch z)⟩, fun t h => (nomatch h), rfl⟩ ?_ ?_
    · rintro i P' Γ1 hP ⟨hi, ts, q, gr, hI, hV, rfl⟩ vv Pc
      rw [List.getElem?_map] at hP
      obtain ⟨t, e1, rfl⟩ := Option.map_eq_some_iff.mp hP
      have hi2 := (List.getElem?_eq_some_iff.mp e1).1
      have htU : t ∈ M.U b W := List.mem_of_getElem? e1
      have htm := M.mem_U.mp htU
      have hown' := M.ownW_own htm
      refine ⟨_, _, jg_name 5 sc__law_alone.nd, ?_⟩
      refine js_for (fun j Γ => ∃ ts q gr, PP b W ts0 q0 ts q gr ∧ (∀ t ∈ (M.U b W).take i, Rdy b W ts0 q0 t → Exa b W ts q t) ∧ (M.ownW b W t ∈ (M.usable b W t).take j → Rdy b W ts0 q0 t → Exa b W ts q t) ∧ Γ = ⟨[some (vD (ptD b)), some (vD (rowsD W)), some (vX P w (useD b W)), some (vE (.ref pp)), some (vB gr), some (vD (encT t)), none, none, none, none, none, none, none], [(pp, oX P w (pd ts q))], [(vv, Pc)]⟩) rfl rfl
        (ji_lst (je_ixX hr (rdx (useD b W)) (je_name 2) (je_name 5) (wd_some htU) rfl (encT_d8 t))) ⟨ts, q, gr, hI, hV, fun h => (nomatch h), rfl⟩ ?_ ?_
      · rintro j P' Γ1 hP ⟨ts, q, gr, hI, hV, hO, rfl⟩ v2 Pc2
        rw [List.getElem?_map] at hP
        obtain ⟨y, e4, rfl⟩ := Option.map_eq_some_iff.mp hP
        have hy : y ∈ M.usable b W t := List.mem_of_getElem? e4
        have hyw := (M.mem_usable.mp hy).1
        have hnd : Nd b W t y := ⟨ok, wok, htm.val.1, hyw⟩
        have take1 : ∀ z, z ∈ (M.usable b W t).take (j + 1) → z ∈ (M.usable b W t).take j ∨ z = y := fun z hz => by
          rw [List.take_succ, e4] at hz
          rcases List.mem_append.mp hz with h | h
          · exact .inl h
          · exact .inr (by simpa using h)
        have hrdy : M.ownW b W t = y → Rdy b W ts0 q0 t → ∀ n ∈ M.needs b W t y, Exa b W ts q n := fun e hr n hn => hI.mono n (hr n (by rw [e]; exact hn))
        obtain ⟨gs1, gs2⟩ := gs_step hI.pi htm hy
        -- the state is kept, if the step is none
        have stay : btr (totO b W ts q t y) (lkO ts q t) = false → (M.ownW b W t ∈ (M.usable b W t).take (j + 1) → Rdy b W ts0 q0 t → Exa b W ts q t) := fun hb h hr => by
          rcases take1 _ h with h | h
          · exact hO h hr
          · exact gs2 hb (by rw [← h]; exact hown'.2.1) (hrdy h hr)
        refine ⟨_, _, jg_name 6 sc__law_alone.nd, ?_⟩
        refine js_set (P := vL (thsV (M.needs b W t y))) 7 sc__law_alone.nd (je_call cn (hr.mono (by decide)) (b, W, t, y) hnd (ja_cons (je_name 0) (ja_cons (je_name 1) (ja_cons (je_name 5) (ja1 (je_name 6))))) (fun _ _ _ h => h)) ?_
        refine js_ifLast (B := (· = ((M.needs b W t y).map fun n => decide (n ∈ ts)).all id)) (jt_val (je_all rfl fr (je_imp (je_new (jn_lc [("_law_need", 12)] (M.needs b W t y) (fun n => vD (encT n)) (fun _ => true) (fun n => vB (decide (n ∈ ts))) rfl sc__law_alone.nd (blkOk_by (by rfl)) (ji_lst (je_name 7)) (Nat.lt_of_le_of_lt (needs_len hnd) (by decide)) ?_)) fun v K h => ?_))) (fun hb => ?_) fun hb => ?_
        · intro n hm A' O v' Pc'
          refine jelt1 12 sc__law_alone.nd fun s H0 C cl fp => ⟨jts_nil, fun _ => je_in hr (rdxO (ps := pd ts q) 0) (je_name 12) (je_name 3) ?_ (encT_d8 n)⟩
          by_cases h : n ∈ ts
          · rw [pd_some h, decide_eq_true h]; rfl
          · rw [pd_none h, decide_eq_false h]; rfl
        · rw [List.filter_eq_self.mpr (fun _ _ => rfl)] at h
          rw [List.map_map]; exact h
        · have hall : ∀ n ∈ M.needs b W t y, n ∈ ts := fun n hn => by
            have := hb.symm
            rw [List.all_map, List.all_eq_true] at this
            exact of_decide_eq_true (this n hn)
          have hto : totO b W ts q t y = some (M.tot b W q t y) := if_pos hall
          refine js_set (P := vN (M.tot b W q t y)) 8 sc__law_alone.nd (je_add' (je_call cp (hr.mono (by decide)) (b, y) ⟨_, _, hyw⟩ (ja_cons (je_name 0) (ja1 (je_name 6))) (fun _ _ _ h => h)) (je_sum (ns := (M.needs b W t y).map q) rfl fr (je_imp (je_new (jn_lc [("_law_need", 12)] (M.needs b W t y) (fun n => vD (encT n)) (fun _ => true) (fun n => vN (q n)) rfl sc__law_alone.nd (blkOk_by (by rfl)) (ji_lst (je_name 7)) (Nat.lt_of_le_of_lt (needs_len hnd) (by decide)) ?_)) fun v K h => ?_))) ?_
          · intro n hm A' O v' Pc'
            exact jelt1 12 sc__law_alone.nd fun s H0 C cl fp => ⟨jts_nil, fun _ => je_ixX hr (rdxO (ps := pd ts q) 0) (je_name 3) (je_name 12) (pd_some (hall n hm)) rfl (encT_d8 n)⟩
          · rw [List.filter_eq_self.mpr (fun _ _ => rfl)] at h
            rw [List.map_map]; exact h
          have hbtr : btr (totO b W ts q t y) (lkO ts q t) = decide (((M.tot b W q t y : Nat) : Int) < ((if t ∈ ts then q t else M.tot b W q t y + 1 : Nat) : Int)) := by
            rw [hto]
            unfold lkO
            by_cases h : t ∈ ts
            · rw [if_pos h, if_pos h]
              exact decide_eq_decide.mpr (by omega)
            · rw [if_neg h, if_neg h]
              exact (decide_eq_true (by omega)).symm
          refine js_ifLast (jt_lt (je_name 8) (je_get2 (k := encT t) (P := vN (if t ∈ ts then q t else M.tot b W q t y + 1)) hr (rdxO (ps := pd ts q) 0) (je_name 3) (je_name 5) (je_add' (n := 1) (je_name 8) je_int) (fun P' e v K h => ?_) (fun e v K h => ?_) (encT_d8 t))) (fun hb2 => ?_) fun hb2 => ?_
          · by_cases hm : t ∈ ts
            · rw [pd_some hm] at e
              cases e
              rw [if_pos hm]
              exact h
            · rw [pd_none hm] at e; cases e
          · by_cases hm : t ∈ ts
            · rw [pd_some hm] at e; cases e
            · rw [if_neg hm]
              exact h
          · rw [← hbtr] at hb2
            obtain ⟨c, ec, n1, n2, n3⟩ := gs1 hb2.symm
            rw [hto] at ec
            cases ec
            refine js_put (k := encT t) (Pv := vN (M.tot b W q t y)) (ps := pd ts q) 0 hr (je_name 8) (je_name 3) (je_name 5) (by rw [pd_len]; have := tot_len ts q hI.pi; omega) ?_ rfl rfl (encT_d8 _)
            rw [pd_put]
            refine js_set (P := vB true) 4 sc__law_alone.nd je_bl ?_
            refine js_nil ⟨_, ⟨M.addK ts t, M.setQ q t (M.tot b W q t y), true, ⟨n1, fun x h => n2 x (hI.mono x h), fun z => (nomatch z), fun _ => ⟨t, htm, fun z => ?_⟩⟩, fun x hx hr => n2 x (hV x hx hr), fun h hr => ?_, rfl⟩, (by repeat' first | exact True.intro | refine ⟨fun _ _ h => h, ?_⟩), rfl, rfl⟩
            · have z := hI.mono t z
              have h2 := n2 t z
              have hq := h2.2
              rw [M.setQ_self] at hq
              have hb3 := hb2.symm
              rw [hto] at hb3
              have := M.btr_some hb3 (q t) (by unfold lkO; rw [if_pos z.1])
              have := z.2
              omega
            · rcases take1 _ h with h | h
              · exact n2 t (hO h hr)
              · exact n3 (by rw [← h]; exact hown'.2.1) (hrdy h hr)
          · rw [← hbtr] at hb2
            exact js_nil ⟨_, ⟨ts, q, gr, hI, hV, stay hb2.symm, rfl⟩, (by repeat' first | exact True.intro | refine ⟨fun _ _ h => h, ?_⟩), rfl, rfl⟩
        · have hnall : ¬ ∀ n ∈ M.needs b W t y, n ∈ ts := fun z => by
            have := hb.symm
            rw [List.all_map, List.all_eq_false] at this
            obtain ⟨n, hn, hne⟩ := this
            exact hne (decide_eq_true (z n hn))
          refine js_nil ⟨_, ⟨ts, q, gr, hI, hV, stay ?_, rfl⟩, (by repeat' first | exact True.intro | refine ⟨fun _ _ h => h, ?_⟩), rfl, rfl⟩
          rw [show totO b W ts q t y = none from if_neg hnall]
          rfl
      · rintro Γ' ⟨ts, q, gr, hI, hV, hO, rfl⟩
        rw [List.length_map, List.take_length] at hO
        refine js_nil ⟨_, ⟨hi2, ts, q, gr, hI, fun x hx hr => ?_, rfl⟩, (by repeat' first | exact True.intro | refine ⟨fun _ _ h => h, ?_⟩), rfl, rfl⟩
        rw [List.take_succ, e1] at hx
        rcases List.mem_append.mp hx with h | h
        · exact hV x h hr
        · have : x = t := by simpa using h
          subst this
          exact hO hown'.1 hr
    · rintro Γ' ⟨_, ts, q, gr, hI, hV, rfl⟩
      rw [List.length_map, List.take_length] at hV
      have hV2 : ∀ t, M.Mk b W t → Rdy b W ts0 q0 t → Exa b W ts q t := fun t ht hr => hV t (M.mem_U.mpr ht) hr
      refine js_nil ⟨inx b W ts q + (if gr = true then 1 else 0), _, ?_, ⟨ts, q, gr, hI.pi, fun hg => ?_, rfl, rfl⟩, (by repeat' first | exact True.intro | refine ⟨fun _ _ h => h, ?_⟩), rfl, rfl⟩
      · cases gr with
        | true =>
          rw [if_pos rfl]
          exact Nat.add_lt_add_right (inx_lt ok hI.mono hV2 (hI.some_ rfl)) 1
        | false =>
          obtain ⟨e1, e2⟩ := hI.same rfl
          rw [e1, e2, if_pos rfl, if_neg (fun z => nomatch z)]
          exact Nat.lt_succ_self _
      · obtain ⟨e1, e2⟩ := hI.same hg
        subst e1 e2
        exact all_exact ok hV2
  · subst hb
    have hex := hc0 rfl
    have hmem : ∀ t, t ∈ ts0 ↔ M.Mk b W t := fun t => ⟨fun h => (hP0.snd t h).1, fun h => (hex t h).1⟩
    have hpd : pd ts0 q0 = pd ts0 (M.opt b W) := by
      unfold pd
      apply List.map_congr_left
      intro t ht
      rw [(hex t ((hmem t).mp ht)).2]
    rw [hpd]
    refine js_show 3 0 rfl rfl ?_
    refine js_new 9 sc__law_alone.nd jn_dict fun p9 => ?_
    refine js_for (fun i Γ => i ≤ (M.U b W).length ∧ Γ = ⟨[some (vD (ptD b)), some (vD (rowsD W)), some (vX P w (useD b W)), some (vX P w (pd ts0 (M.opt b W))), some (vB false), none, none, none, none, some (vE (.ref p9)), none, none, none], [(p9, oX P w (((M.U b W).take i).map fun t => (encT t, vD (wyD (M.ownW b W t)))))], []⟩) rfl rfl
      (ji_imp (ji_keysX (je_name 2)) keysU) ⟨Nat.zero_le _, rfl⟩ ?_ ?_
    · rintro i P' Γ1 hP ⟨hil, rfl⟩ v1 Pc1
      rw [List.getElem?_map] at hP
      obtain ⟨t, e1, rfl⟩ := Option.map_eq_some_iff.mp hP
      obtain ⟨hi, e3⟩ := List.getElem?_eq_some_iff.mp e1
      have htU : t ∈ M.U b W := List.mem_of_getElem? e1
      have htm := M.mem_U.mp htU
      refine ⟨_, _, jg_name 5 sc__law_alone.nd, ?_⟩
      refine js_new 10 sc__law_alone.nd (jn_lst ja_nil) fun p10 => ?_
      refine js_for (fun j Γ => Γ = ⟨[some (vD (ptD b)), some (vD (rowsD W)), some (vX P w (useD b W)), some (vX P w (pd ts0 (M.opt b W))), some (vB false), some (vD (encT t)), none, none, none, some (vE (.ref p9)), some (vE (.ref p10)), none, none], [(p9, oX P w (((M.U b W).take i).map fun t => (encT t, vD (wyD (M.ownW b W t))))), (p10, oL (((M.usable b W t).take j).map fun y => vD (trD b W t y)))], [(v1, Pc1)]⟩) rfl rfl
        (ji_lst (je_ixX hr (rdx (useD b W)) (je_name 2) (je_name 5) (wd_some htU) rfl (encT_d8 t))) rfl ?_ ?_
      · rintro j P' Γ1 hP rfl v2 Pc2
        rw [List.getElem?_map] at hP
        obtain ⟨y, e4, rfl⟩ := Option.map_eq_some_iff.mp hP
        have hy : y ∈ M.usable b W t := List.mem_of_getElem? e4
        obtain ⟨hyw, hyn⟩ := M.mem_usable.mp hy
        have hnd : Nd b W t y := ⟨ok, wok, htm.val.1, hyw⟩
        refine ⟨_, _, jg_name 6 sc__law_alone.nd, ?_⟩
        refine js_set (P := vN (M.tot b W (M.opt b W) t y)) 11 sc__law_alone.nd (je_add' (je_call cp (hr.mono (by decide)) (b, y) ⟨_, _, hyw⟩ (ja_cons (je_name 0) (ja1 (je_name 6))) (fun _ _ _ h => h)) (je_sum (ns := (M.needs b W t y).map (M.opt b W)) rfl fr (je_imp (je_new (jn_lc [("_law_need", 12)] (M.needs b W t y) (fun n => vD (encT n)) (fun _ => true) (fun n => vN (M.opt b W n)) rfl sc__law_alone.nd (blkOk_by (by rfl)) (ji_lst (je_call cn (hr.mono (by decide)) (b, W, t, y) hnd (ja_cons (je_name 0) (ja_cons (je_name 1) (ja_cons (je_name 5) (ja1 (je_name 6))))) (fun _ _ _ h => h))) (Nat.lt_of_le_of_lt (needs_len hnd) (by decide)) ?_)) fun v K h => ?_))) ?_
        · intro n hm A' O v' Pc'
          exact jelt1 12 sc__law_alone.nd fun s H0 C cl fp => ⟨jts_nil, fun _ => je_ixX hr (rdx (pd ts0 (M.opt b W))) (je_name 3) (je_name 12) (pd_some ((hmem n).mpr (hyn n hm))) rfl (encT_d8 n)⟩
        · rw [List.filter_eq_self.mpr (fun _ _ => rfl)] at h
          rw [List.map_map]; exact h
        refine js_append (p := p10) (ls := ((M.usable b W t).take j).map fun y => vD (trD b W t y)) (Pe := vD (trD b W t y)) 1 (je_name 10) (je_tupD (ds := [dN (M.tot b W (M.opt b W) t y), dN (M.price b y), wyD y]) (ja_cons (je_name 11) (ja_cons (je_call cp (hr.mono (by decide)) (b, y) ⟨_, _, hyw⟩ (ja_cons (je_name 0) (ja1 (je_name 6))) (fun _ _ _ h => h)) (ja1 (je_name 6))))) ?_ ?_
        · rw [List.length_map, List.length_take]
          exact Nat.lt_of_le_of_lt (Nat.le_trans (Nat.min_le_right _ _) (usable_len ok W t)) (by decide)
        · refine js_nil ⟨_, rfl, (by repeat' first | exact True.intro | refine ⟨fun _ _ h => h, ?_⟩), ?_, rfl⟩
          rw [List.take_succ, e4, List.map_append]
          rfl
      · rintro Γ' rfl
        rw [List.length_map, List.take_length]
        refine js_show 10 1 rfl rfl ?_
        have hlen := usable_len ok W t
        have hne := (M.ownW_own htm).1
        have hmin := fun (a : Wy) (l : List Wy) (h : a :: l = M.usable b W t) => least_tr htm h
        generalize hL : M.usable b W t = L at hmin hlen hne
        cases L with
        | nil => exact nomatch hne
        | cons a l =>
          have hmin := hmin a l rfl
          refine js_put (k := encT t) (Pv := vD (wyD (M.ownW b W t))) (ps := ((M.U b W).take i).map fun t => (encT t, vD (wyD (M.ownW b W t)))) 0 hr (je_ixT (ds := [dN (M.tot b W (M.opt b W) t (M.ownW b W t)), dN (M.price b (M.ownW b W t)), wyD (M.ownW b W t)]) (i := 2) (je_min (d := trD b W t a) (ds := l.map (trD b W t)) (m := trD b W t (M.ownW b W t)) rfl hr fr (je_imp (je_name 10) fun v K h => ?_) ?_ ?_ ?_) je_int rfl) (je_name 9) (je_name 5) ?_ ?_ rfl rfl (encT_d8 _)
          · have h : (vL ((a :: l).map fun y => vD (trD b W t y))).p v K := h
            rw [← List.map_cons (f := trD b W t), List.map_map]
            exact h
          · exact tr_alike b W t (a :: l)
          · intro x hx
            rw [← List.map_cons (f := trD b W t)] at hx
            obtain ⟨y, _, rfl⟩ := List.mem_map.mp hx
            exact Nat.le_trans (trD_fn b W t y).2 (by decide : 2 ≤ 60)
          · intro x hx e
            rw [← List.map_cons (f := trD b W t)] at hx
            obtain ⟨y, _, rfl⟩ := List.mem_map.mp hx
            rw [minD_enc (tr_lt b W t), hmin] at e
            exact data_inj e
          · rw [List.length_map, List.length_take]; omega
          · refine js_nil ⟨_, ⟨hi, rfl⟩, (by repeat' first | exact True.intro | refine ⟨fun _ _ h => h, ?_⟩), ?_, rfl⟩
            show [(p9, oX P w (putP _ (encT t) (vD (wyD (M.ownW b W t)))))] = _
            rw [putP_new (lk_out encT_inj' ?_), List.take_succ, e1, List.map_append]
            · rfl
            · intro hmt
              obtain ⟨j, hj1, hj2⟩ := List.mem_take_iff_getElem.mp hmt
              have hji : j < i := by omega
              have := (List.pairwise_iff_getElem.mp (M.U_nodup b W)) j i (by omega) hi hji
              exact this (hj2.trans e3.symm)
    · rintro Γ' ⟨_, rfl⟩
      rw [List.length_map, List.take_length]
      refine js_show 9 0 rfl rfl ?_
      exact js_ret (je_tup (ja_cons (je_name 3) (ja1 (je_name 9)))) fun v K h => ⟨ts0, ⟨hP0.nd, hmem⟩, h⟩
end
end Lk
end

section
set_option Elab.async false
set_option linter.all false
set_option maxRecDepth 100000
set_option maxHeartbeats 1000000
/-! What the law asks, of the plain model. -/
namespace Lk
open PySem PySem.Spec L2
open PyProof.Rows hiding St
open Evl (Ex)
open M (Bk Rl Mv Vl Wb Wy)
theorem U_small {b : Bk} (ok : b.ok) {W : Wb} (wok : M.Wok b W) : (M.U b W).length < sizeLine :=
  Nat.lt_of_le_of_lt U_len (Nat.lt_of_le_of_lt (Nat.mul_le_mul wok.len ok.kn5) (by decide))
theorem part_mvd {b : Bk} (ok : b.ok) {W : Wb} (wok : M.Wok b W) {v : Nat} (hv : v < W.length) :
    Mvd (M.U b (M.partW W v)) (M.U b W) (fun t => dN (M.opt b (M.partW W v) t)) (fun t => dN (M.opt b W t)) (M.bel W v) := by
  refine ⟨U_small ok (M.part_ok wok hv), fun t ht => ?_⟩
  have hm := M.mem_U.mp ht
  have hl : t.1 < (M.bel W v).length := by rw [← M.partW_len]; exact hm.val.1
  have hx : (M.bel W v)[t.1] ∈ M.bel W v := List.getElem_mem hl
  have hr := (M.mem_bel wok hv).mp hx
  have hh := M.part_hom (b := b) wok hv
  have e : M.mapT (fun x => (M.bel W v).idxOf x) ((M.bel W v)[t.1], t.2) = t := by
    unfold M.mapT
    show ((M.bel W v).idxOf (M.bel W v)[t.1], t.2) = t
    rw [M.idx_of (M.bel_nodup W v) hl]
  have hmk : M.Mk b W ((M.bel W v)[t.1], t.2) := (hh.mks (t := ((M.bel W v)[t.1], t.2)) hr).mp (by rw [e]; exact hm)
  refine ⟨_, List.getElem?_eq_getElem hl, M.mem_U.mpr hmk, ?_, rfl⟩
  have := hh.opt (t := ((M.bel W v)[t.1], t.2)) hr
  rw [e] at this
  show dN _ = dN _
  rw [this]
theorem fold_pl {W : Wb} {v : Nat} (hv : v < W.length) : (M.foldS W W.length).2[v]? = some (M.foldP W v) := by
  have hl : v < (M.foldS W W.length).2.length := by rw [M.foldS_len]; exact hv
  unfold M.foldP
  rw [List.getD_eq_getElem?_getD, List.getElem?_eq_getElem hl]
  rfl
theorem fold_mvd {b : Bk} (ok : b.ok) {W : Wb} (wok : M.Wok b W) {ts : List Thg} (hts : ∀ t ∈ ts, M.Mk b W t) (few : ts.length < sizeLine) :
    Mvd ts (M.U b (M.foldW W)) (fun t => dN (M.opt b W t)) (fun t => dN (M.opt b (M.foldW W) t)) (M.foldS W W.length).2 ∧
    Mvd ts (M.U b (M.foldW W)) (fun t => wyD (M.ownW b W t)) (fun t => wyD (M.ownW b (M.foldW W) t)) (M.foldS W W.length).2 := by
  have hh := M.fold_hom (b := b) wok
  refine ⟨⟨few, fun t ht => ?_⟩, ⟨few, fun t ht => ?_⟩⟩
  · have hm := hts t ht
    refine ⟨_, fold_pl hm.val.1, M.mem_U.mpr ((hh.mks hm.val.1).mpr hm), ?_, rfl⟩
    show dN (M.opt b (M.foldW W) (M.mapT (M.foldP W) t)) = _
    rw [hh.opt hm.val.1]
  · have hm := hts t ht
    refine ⟨_, fold_pl hm.val.1, M.mem_U.mpr ((hh.mks hm.val.1).mpr hm), ?_, wyD_fine _⟩
    show wyD (M.ownW b (M.foldW W) (M.mapT (M.foldP W) t)) = _
    rw [hh.ownW hm.val.1 hm]
/-- the root of the tree stands for the value -/
theorem tree_root {b : Bk} {W : Wb} (wok : M.Wok b W) {v k : Nat} (hv : v < W.length) :
    (M.Mk b (M.unfW W v) ((M.unfW W v).length - 1, k) ↔ M.Mk b W (v, k)) ∧ M.opt b (M.unfW W v) ((M.unfW W v).length - 1, k) = M.opt b W (v, k) ∧
    (M.Mk b W (v, k) → M.ownW b (M.unfW W v) ((M.unfW W v).length - 1, k) = M.ownW b W (v, k)) := by
  have hh := M.unf_hom (b := b) wok hv
  have hp := M.tz_pos wok hv
  rw [M.unfW_len wok hv]
  have hs : M.tz W v - 1 < M.tz W v := by omega
  have e : M.mapT (M.unfP W v) (M.tz W v - 1, k) = (v, k) := by
    unfold M.mapT
    rw [show (M.tz W v - 1, k).1 = M.tz W v - 1 from rfl, M.unf_root wok hv]
  have h1 := hh.mks (t := (M.tz W v - 1, k)) hs
  have h2 := hh.opt (t := (M.tz W v - 1, k)) hs
  have h3 := hh.ownW (t := (M.tz W v - 1, k)) hs
  rw [e] at h1 h2 h3
  exact ⟨h1.symm, h2.symm, fun h => (h3 (h1.mp h)).symm⟩
theorem tree_tr {b : Bk} (ok : b.ok) {W : Wb} (wok : M.Wok b W) {v k : Nat} (hv : v < W.length) (h60 : M.tz W v ≤ 60) (hm : M.Mk b W (v, k)) : Tr b (M.unfW W v) ((M.unfW W v).length - 1, k) :=
  ⟨ok, M.unf_ok wok hv (by omega), M.unf_tree wok hv, by rw [M.unfW_len wok hv]; omega, (tree_root wok hv).1.mpr hm⟩
theorem scl_ok {b : Bk} (h : Bo b) {m : Nat} (h1 : 1 ≤ m) (h9 : m ≤ 9) : (M.scl m b).ok := by
  have ok := h.ok
  have l1 : (M.scl m b).ru.length = b.ru.length := List.length_map ..
  have l2 : (M.scl m b).mv.length = b.mv.length := List.length_map ..
  refine ⟨ok.ar1, ok.ar8, ok.ar2, ok.kn1, ok.kn5, by rw [l1]; exact ok.ru40, by rw [l2]; exact ok.mv20, ?_, ?_, ?_, ?_⟩
  · intro r hr
    obtain ⟨x, hx, rfl⟩ := List.mem_map.mp hr
    obtain ⟨a, b', c, d, e, f⟩ := ok.rl x hx
    have := h.pR x hx
    refine ⟨a, b', c, d, ?_, ?_⟩
    · exact Nat.mul_le_mul h1 e
    · show m * x.pr ≤ 1000
      exact Nat.le_trans (Nat.mul_le_mul h9 this) (by decide)
  · intro r hr
    obtain ⟨x, hx, rfl⟩ := List.mem_map.mp hr
    obtain ⟨a, b', c, d, e⟩ := ok.mo x hx
    have := h.pM x hx
    refine ⟨a, b', c, ?_, ?_⟩
    · exact Nat.mul_le_mul h1 d
    · show m * x.pr ≤ 1000
      exact Nat.le_trans (Nat.mul_le_mul h9 this) (by decide)
  · have : ((M.scl m b).ru.map fun r => (r.op, r.src, r.dst)) = b.ru.map fun r => (r.op, r.src, r.dst) := by
      show (List.map _ (List.map _ _)) = _
      rw [List.map_map]
      rfl
    rw [this]
    exact ok.ruN
  · have : ((M.scl m b).mv.map fun r => (r.frm, r.to)) = b.mv.map fun r => (r.frm, r.to) := by
      show (List.map _ (List.map _ _)) = _
      rw [List.map_map]
      rfl
    rw [this]
    exact ok.mvN
theorem scl_wok {b : Bk} {W : Wb} (wok : M.Wok b W) (m : Nat) : M.Wok (M.scl m b) W := ⟨wok.len, wok.at_⟩
theorem scl_owD {b : Bk} {W : Wb} {m : Nat} (h1 : 1 ≤ m) : owD (M.scl m b) W = owD b W := by
  unfold owD
  rw [M.scl_U]
  apply List.map_congr_left
  intro t ht
  rw [M.scl_ownW h1 (M.mem_U.mp ht)]
theorem wv2_ok {b : Bk} {W : Wb} (h : Wv2 b.ar W) (hl : W.length ≤ 12) : M.Wok b W := ⟨by omega, h⟩
/-- something can be made: a rule of the first op -/
theorem some_made {b : Bk} (h : Bo b) {W : Wb} (wok : M.Wok b W) (hl : 2 ≤ W.length) (h0 : M.vl W 0 = ⟨0, []⟩) : 1 ≤ (M.U b W).length := by
  obtain ⟨r, hr, e⟩ := h.r0
  obtain ⟨n, hn⟩ := List.getElem?_of_mem hr
  have hnl := (List.getElem?_eq_some_iff.mp hn).1
  have hrl : b.rl n = r := by rw [rl_at hnl] at hn; exact Option.some.inj hn
  have hk := (h.ok.rl r hr).2.2.2.1
  have hmk : M.Mk b W (0, r.dst) := by
    have hy : Wy.ru n ∈ M.ways b W (0, r.dst) := M.mem_waysOf.mpr (.inr ⟨n, rfl, hnl, by rw [hrl, e]; show 0 = (M.vl W 0).op; rw [h0], by rw [hrl]⟩)
    refine ⟨_, M.mk_of (t := (0, r.dst)) (by show 0 < W.length; omega) hk hy fun x hx => ?_⟩
    have hx : x ∈ List.zip (M.vl W 0).parts (b.rl n).src := hx
    rw [h0] at hx
    exact nomatch hx
  exact List.length_pos_of_mem (M.mem_U.mpr hmk)
end Lk
end

section
set_option Elab.async false
set_option linter.all false
set_option maxRecDepth 100000
set_option maxHeartbeats 1000000
/-! Own things shown for a while; two new things at once. -/
namespace Lk
open PySem PySem.Spec L2
open PyProof.Rows hiding St
open Evl (Ex)
open M (Bk Rl Mv Vl Wb Wy)
section
variable {F : Fm} {X : Cx} {Γ : Ct} {pos p0 : Pos} {e a b tg : Expr} {P Pa Pb : VP} {p : Addr} {n : Nat} {rest : List Stmt} {D : PD} {O O1 O2 : OP}
theorem rt_showing {t : TT} {B : Bool → Prop} (i j : Nat) (hi : Γ.imm[i]? = some (some (vE (.ref p)))) (hj : Γ.own[j]? = some (p, O)) (h : RT F (Γ.show i j O) t B) : RT F Γ t B := fun σ H Q E k =>
  h σ H Q (E.show hi hj) fun b H' s hb => k b H' (s.more (fun a q _ => E.hdom q) erase_sub) hb
theorem je_showing (i j : Nat) (hi : Γ.imm[i]? = some (some (vE (.ref p)))) (hj : Γ.own[j]? = some (p, O)) (hP : ∀ v K K', P.p v K → P.p v K') (h : JE F X (Γ.show i j O) e P) : JE F X Γ e P := fun σ H Q E k =>
  h σ H Q (E.show hi hj) fun v H' s hv => k v H' (s.more (fun a q _ => E.hdom q) erase_sub) (hP _ _ _ hv)
theorem js_par2N {px py pt : Pos} {kt k2 : _} {pt2 : Pos} {x y : Str} (i j : Nat) (hc : X.calm = true) (hN : X.N.Nodup) (h1 : JN F X Γ a O1) (h2 : ∀ p, JN F X { Γ with own := Γ.own ++ [(p, O1)] } b O2)
    (k : ∀ p q, JS F X { imm := (Γ.imm.set i (some (vE (.ref p)))).set j (some (vE (.ref q))), own := Γ.own ++ [(p, O1)] ++ [(q, O2)], fx := Γ.fx } rest D) (hi : X.N[i]? = some x := by rfl) (hj : X.N[j]? = some y := by rfl) (hij : i ≠ j := by decide) (hx : X.env.scope.names.lookup x = some .local := by rfl) (hy : X.env.scope.names.lookup y = some .local := by rfl)
    (hs1 : starEach [a, b] X.env = (false, eval a X.env) :: starEach [b] X.env := by rfl) (hs2 : starEach [b] X.env = (false, eval b X.env) :: starEach [] X.env := by rfl)
    (hw : swappedStores [.Tuple [.Name x px, .Name y py] kt pt] (.Tuple [a, b] k2 pt2) X.env = pure (some [x, y]) := by rfl) (hs : swapsWithSole [.Tuple [.Name x px, .Name y py] kt pt] (.Tuple [a, b] k2 pt2) pos.line X.env = pure false := by rfl) : JS F X Γ (.Assign [.Tuple [.Name x px, .Name y py] kt pt] (.Tuple [a, b] k2 pt2) pos :: rest) D :=
  js_st (ps_par hc hN hi hj hij hx hy pA hw hs) fun σ H E g1 g2 => oA_of (pa_cons pE pA hs1) (h1 σ H _ g1 fun p H1 s1 hp ho1 => oA_of (pa_cons pE pA hs2) (h2 p σ H1 _ (g1.addOwn hp s1 ho1) fun q H2 s2 hq ho2 => oA_of pa_nil ⟨_, _, rfl, by
    have E2 := (g1.addOwn hp s1 ho1).addOwn hq s2 ho2
    exact k p q _ _ _ (Env.put (Env.put E2 (i := i) (P := vE (.ref p)) (v := .ref p) rfl) (i := j) (P := vE (.ref q)) (v := .ref q) rfl) g2⟩))
theorem js_tgQ {α : Sort _} {c : α → Prop} {f : α → VP} {Γ' : α → Ct} {js : List Nat} (he : JE F X Γ e (vEx fun a => vAnd (c a) (f a))) (hg : ∀ a, c a → JG F X Γ tg js (f a) (Γ' a)) (k : ∀ a, c a → JS F X (Γ' a) rest D) (hs : swapsWithSole [tg] e pos.line X.env = pure false := by rfl) (hw : swappedStores [tg] e X.env = pure none := by rfl)
    (h1 : (assignEach [tg] X.env).map (·.2) = [assign tg X.env] := by rfl) : JS F X Γ (.Assign [tg] e pos :: rest) D :=
  js_st (ps_asg pE pG hs hw h1) fun σ H E h1 h2 => he σ H _ h1 fun v H1 s ⟨a, hc, p⟩ => hg a hc σ H1 v _ (h1.go s) p fun σ' E' _ => k a hc σ' H1 _ E' h2
theorem vBag_w {H H0 : Hp} (h : ∀ q, H q = none → H0 q = none) {v : V} {K : Hp} (hv : (vBag H).p v K) : (vBag H0).p v K := by
  obtain ⟨B, G, alw, h1, h2, h3, h4⟩ := hv
  exact ⟨B, G, alw, h1, h _ h2, h _ h3, h4⟩
variable {ps qs : List (Lk.D × VP)}
theorem g2_neX (ra : RdX F X.prog X.w Γ Pa ps) (rb : RdX F X.prog X.w Γ Pb qs) (hl : ps.length = qs.length) (hq : ∀ k Q, (k, Q) ∈ ps → ∃ d, Q = vD d ∧ (k, vD d) ∈ qs ∧ fine d = true) (hr : Room n X.A) (ha : JE F X Γ a Pa) (hb : JE F X Γ b Pb) : JT F X Γ (.Compare a [.NotEq] [b] pos) (· = false) :=
  jt_cmp (op_neX (u128 hr)) ha hb fun σ H x y Q E hx hy k => by
    obtain ⟨ks, dx, px⟩ := ra σ H x E hx
    obtain ⟨ls, dy, py⟩ := rb σ H y E hy
    refine ⟨ks, ls, dx, dy, by rw [px.length, py.length, hl], fun kk v hv => ?_, kt_here k rfl⟩
    obtain ⟨i, hi⟩ := List.getElem?_of_mem hv
    obtain ⟨PP, h1, h2⟩ := px.get hi
    obtain ⟨d, rfl, hm, hf⟩ := hq kk PP (List.mem_of_getElem? h1)
    obtain ⟨j, hj⟩ := List.getElem?_of_mem hm
    have lj : j < ls.length := by rw [py.length]; exact (List.getElem?_eq_some_iff.mp hj).1
    obtain ⟨⟨k2, v2⟩, h3⟩ : ∃ z, ls[j]? = some z := ⟨_, List.getElem?_eq_getElem lj⟩
    obtain ⟨P2, h4, h5⟩ := py.get h3
    rw [hj] at h4
    cases h4
    exact ⟨v2, d, List.mem_of_getElem? h3, Im.mono h2 (hid_ex _ _), Im.mono h5 (hid_ex _ _), hf⟩
/-- the same things, told alike -/
theorem jt_sameT {ts us : List Thg} {g h : Thg → Lk.D} (hr : Room n X.A) (ra : RdX F X.prog X.w Γ Pa (tD ts g)) (rb : RdX F X.prog X.w Γ Pb (tD us h)) (ha : JE F X Γ a Pa) (hb : JE F X Γ b Pb) (n1 : ts.Nodup) (n2 : us.Nodup) (hm : ∀ t, t ∈ ts ↔ t ∈ us) (he : ∀ t ∈ ts, g t = h t) (hf : ∀ t ∈ ts, fine (g t) = true) : JT F X Γ (.Compare a [.NotEq] [b] pos) (· = false) :=
  g2_neX ra rb (by rw [List.length_map, List.length_map]; exact (M.perm_nodup_mem n1 n2 hm).length_eq) (fun k Q hk => by
    obtain ⟨t, ht, e⟩ := List.mem_map.mp hk
    injection e with e1 e2
    subst e1 e2
    exact ⟨g t, rfl, List.mem_map.mpr ⟨t, (hm t).mp ht, by rw [he t ht]⟩, hf t ht⟩) hr ha hb
/-- `is not True` -/
theorem jt_isntT {k : Bool} {j : _} {p1 : Pos} (ha : JE F X Γ a (vB k)) : JT F X Γ (.Compare a [.IsNot] [.Constant (.bool true) j p1] pos) (· = !k) :=
  jt_cmp op_notBl ha je_bl fun σ H x y Q E hx hy kk => ⟨k, true, hx, hy, kt_here kk (by show V.bl _ = V.bl _; congr 1; cases k <;> rfl)⟩
end
section
variable {P : Program} {w : World} {K : PySem.W.Frag} {mg : Str → Option Value} {base : Heap} {x qual : Str} {params : Arguments} {body : List Stmt} {scope : Scope} {f : Addr} {fd : FuncData} {N ps : List Str} {k : Nat} {α : Type} {pre : α → Th → Prop} {Pf : α → List VP} {R : α → Hp → VP}
theorem fn_of (F : FunD K x qual params body scope [] [] f fd) (S : FnScope N ps scope) (hl : ∀ a, (Pf a).length = ps.length)
    (h : ∀ (a : α) (Fr : Fm) (cdv : Value) (A : Around) (outer : List PySem.Env) (s : Shared) (E : XK), Room k (cxOf CX0 P w K mg base N qual scope f cdv A outer s Fr.H0 E).nox.A → pre a Fr.T →
      JS Fr (cxOf CX0 P w K mg base N qual scope f cdv A outer s Fr.H0 E).nox ⟨startI N (Pf a), [], []⟩ body { nx := fun _ => ∀ K, (R a Fr.H0).p .non K, rt := R a Fr.H0 }) : FnOk P w K mg base CX0 (k + 1) f fd ps (mkSp pre Pf R) := by
  refine F.ok S (fun vs H Q E ⟨T, S, a, _, _, _, _, h4, _⟩ => by rw [h4.length, hl]) (fun cdv A outer s H vs Q E hr ⟨T, S', a, h1, h2, h3, h4, h5, h6⟩ => ⟨oSs _ body, PSs.nox pSs, ?_⟩)
  have := h a ⟨T, S', H, h1, h2⟩ cdv A outer s E hr h4
  have hlen : vs.length = (Pf a).length := h5.length
  refine this (start N vs) H { nx := fun _ H' => Q .non H', rt := Q } ⟨Step.refl _ _ _, h3, fun e he => (nomatch he), fun e he => (nomatch he), List.nodup_nil, fun i P' e => ?_, ?_, fun e he => (nomatch he)⟩ ⟨fun Γ σ H' z Ee => h6 _ _ Ee.step (z _), fun _ _ _ z => z.elim, fun _ _ _ z => z.elim, fun v H' st z => h6 v H' st z⟩
  · obtain ⟨v, g1, g2⟩ := all_start (n := N.length - (Pf a).length) h5 i P' e
    refine ⟨v, ?_, ?_⟩
    · unfold L2.start; rw [hlen]; exact g1
    · have : hid (Fm.S ⟨T, S', H, h1, h2⟩ []) H = hid S' H := by
        congr 1
        funext b
        show (S' b || false) = S' b
        exact Bool.or_false _
      show P'.p v (hid _ H)
      rw [this]; exact g2
  · unfold L2.start startI
    rw [List.length_append, List.length_append, List.length_map, List.length_map, hlen, List.length_replicate, List.length_replicate]
end
end Lk
end

section
set_option Elab.async false
set_option linter.all false
set_option maxRecDepth 100000
set_option maxHeartbeats 2000000
/-! law. -/
namespace Lk
open PySem PySem.Spec L2
open PyProof.Rows hiding St
open Evl (Ex)
open M (Bk Rl Mv Vl Wb Wy)
section
variable {P : Program} {w : World} {K : PySem.W.Frag} {mg : Str → Option Value} {base : Heap} {f : Addr} {fd : FuncData} {CB CW CR : Addr}
structure Cs (P : Program) (w : World) (K : PySem.W.Frag) (mg : Str → Option Value) (base : Heap) (CB CW CR : Addr) : Prop where
  bag : Fc P w K mg base 1 "_law_bag" (spBag K)
  pick : Fc P w K mg base 1 "_law_pick" spPick
  some_ : Fc P w K mg base 2 "_law_some" spSome
  book : Fc P w K mg base 2 "_law_book" spBook
  values : Fc P w K mg base 2 "_law_values" spValues
  usable : Fc P w K mg base 2 "_law_usable" (spLUsable P w)
  lalone : Fc P w K mg base 2 "_law_alone" (spLAlone P w)
  trees : Fc P w K mg base 1 "_law_trees" spLTrees
  moved : Fc P w K mg base 1 "_law_is_moved" (spIsMoved P w)
  alone : Fc P w K mg base 5 "alone" (spAlone P w CB CW CR)
  own : Fc P w K mg base 5 "own" (spOwn P w CB CW CR)
  choice : Fc P w K mg base 5 "is_choice" (spIsChoiceOf P w CB CW CR)
  cost : Fc P w K mg base 7 "cost" (spCost P w CB CW CR)
  part : Fc P w K mg base 4 "part_web" (spRawPartWeb CW CR)
  below : Fc P w K mg base 4 "below" (spBelow CW CR)
  unf : Fc P w K mg base 4 "unfolded" (spUnfolded CW CR)
  fold : Fc P w K mg base 3 "folded" (spFolded CW CR)
  cB : Fi P w K mg base 6 CB (inBook CB)
  cW : Fi P w K mg base 4 CW (inWeb CW CR)
/-- the slots of the law in a turn, from the value on -/
noncomputable abbrev gL (P : Program) (w : World) (CB CW CR B : Addr) (x2 x3 : Option VP) (b : Bk) (W : Wb) (ts : List Thg) (x12 : Option VP) (v : Nat) (x14 x15 x16 : Option VP) : List (Option VP) :=
  [none, some (vE (.ref B)), x2, x3, some (vD (ptD b)), some (vD (rowsD W)), some (vX P w (useD b W)), some (bookV CB b), some (webV CW CR W), some (vX P w (pd ts (M.opt b W))), some (vX P w (owD b W)), some (vX P w (prD b W)), x12, some (vN v), x14, x15, x16, none, none, none, none, none, none, none, none, none, none]
abbrev spLaw (K : PySem.W.Frag) : Sp := mkSp (α := List Int) (fun is T => T = Th.nil ∧ is.length < sizeLine) (fun is => [vS K is]) (fun _ _ => vB true)
theorem fn_law (g : Gk K mg CB CW CR) (c : Cs P w K mg base CB CW CR) (F : FnP K "law" s_law f fd) : FnOk P w K mg base CX0 8 f fd ["_law_script"] (spLaw K) := by
  have fr := g.fr
  refine fn_of F sc_law (fun _ => rfl) ?_
  rintro is Fr cdv A outer s E hr ⟨hT0, hl⟩
  refine js_set (P := vBag Fr.H0) 1 sc_law.nd (je_callN c.bag (hr.mono (by decide)) is hl (ja1 (je_name 0)) fun H hn v K h => vBag_w hn h) ?_
  refine js_region 1 rfl rfl (fun Fr B G alw hT => ?_) hT0 fun v K K' h => h
  refine js_for (fun i Γ => Γ = ⟨[none, some (vE (.ref B)), none, none, none, none, none, none, none, none, none, none, none, none, none, none, none, none, none, none, none, none, none, none, none, none, none], [], []⟩) rfl rfl
    (ji_range1 (n := 3) (fr _ (by decide)) (je_int (i := ((3 : Nat) : Int)))) rfl ?_ (by
    rintro Γ' rfl
    exact js_ret je_bl fun _ _ h => h)
  rintro i P' Γ1 hP rfl vv Pc
  refine ⟨_, _, jg_name 2 sc_law.nd, ?_⟩
  refine js_set (P := vRg 1 101) 3 sc_law.nd (je_ixLt (ps := [vN 2, vN 9, vN 100]) (rdl _) (je_new (jn_lst (ja_cons je_int (ja_cons je_int (ja1 je_int))))) (je_pick c.pick hr hT (by decide) (by decide) (je_name 1) (je_int (i := ((3 : Nat) : Int)))) fun i Q e v K h => ?_) ?_
  · match i, e with
    | 0, e => cases e; exact ⟨2, by decide, h⟩
    | 1, e => cases e; exact ⟨9, by decide, h⟩
    | 2, e => cases e; exact ⟨100, by decide, h⟩
  refine js_setQ (c := Bo) (f := fun b => vD (ptD b)) 4 sc_law.nd (je_call c.book (hr.mono (by decide)) (B, G, alw) hT (ja_cons (je_name 1) (ja_cons (je_addLt (k := 2) (n := 4) je_int (je_pick c.pick hr hT (by decide) (by decide) (je_name 1) (je_int (i := ((4 : Nat) : Int))))) (ja_cons (je_addLt (k := 2) (n := 4) je_int (je_pick c.pick hr hT (by decide) (by decide) (je_name 1) (je_int (i := ((4 : Nat) : Int))))) (ja1 (je_name 3))))) (fun _ _ _ h => h)) fun b hb => ?_
  have ok := hb.ok
  refine js_setQ (c := fun W : Wb => Wv2 b.ar W ∧ M.vl W 0 = ⟨0, []⟩ ∧ 2 ≤ W.length ∧ W.length ≤ 12) (f := fun W => vD (rowsD W)) 5 sc_law.nd (je_call c.values (hr.mono (by decide)) ((B, G, alw), b.ar) ⟨hT, hb.a0, Nat.le_trans ok.ar8 (by decide), fun x hx => Nat.le_trans (ok.ar2 x hx) (by decide)⟩ (ja_cons (je_name 1) (ja_cons (je_pAr (je_name 4)) (ja1 (je_addLt (k := 2) (n := 11) je_int (je_pick c.pick hr hT (by decide) (by decide) (je_name 1) (je_int (i := ((11 : Nat) : Int)))))))) (fun _ _ _ h => h)) fun W hW => ?_
  obtain ⟨hWv, hW0, hW2, hW12⟩ := hW
  have wok : M.Wok b W := wv2_ok hWv hW12
  have hbw : b.ok ∧ M.Wok b W := ⟨ok, wok⟩
  have hU1 : 1 ≤ (M.U b W).length := some_made hb wok hW2 hW0
  have hUl : (M.U b W).length ≤ 1000 := Nat.le_trans U_len (Nat.le_trans (Nat.mul_le_mul hW12 ok.kn5) (by decide))
  have Und := M.U_nodup b W
  refine js_set (P := vX P w (useD b W)) 6 sc_law.nd (je_call c.usable (hr.mono (by decide)) (b, W) hbw (ja_cons (je_name 4) (ja1 (je_name 5))) (fun _ _ _ h => h)) ?_
  refine js_tg (P := vT [bookV CB b, webV CW CR W]) (je_tup (Ps := [bookV CB b, webV CW CR W]) (ja_cons (je_make c.cB (hr.mono (by decide)) g.gB b ok (ja_cons (je_pAr (je_name 4)) (ja_cons (je_pKn (je_name 4)) (ja_cons (je_pRu (je_name 4)) (ja1 (je_pMv (je_name 4))))))) (ja1 (je_make c.cW (hr.mono (by decide)) g.gW W (wv_of ok wok) (ja1 (je_name 5)))))) (jg_tup rfl (jgs_cons (jg_name 7 sc_law.nd) (jgs_cons (jg_name 8 sc_law.nd) jgs_nil))) ?_
  refine js_tgQ (c := fun ts : List Thg => ts.Nodup ∧ ∀ t, t ∈ ts ↔ M.Mk b W t) (f := fun ts => vT [vX P w (pd ts (M.opt b W)), vX P w (owD b W)]) (je_call c.lalone (hr.mono (by decide)) (b, W) hbw (ja_cons (je_name 4) (ja_cons (je_name 5) (ja1 (je_name 6)))) (fun _ _ _ h => h)) (fun ts _ => jg_tup rfl (jgs_cons (jg_name 9 sc_law.nd) (jgs_cons (jg_name 10 sc_law.nd) jgs_nil))) fun ts hts => ?_
  obtain ⟨tnd, tmem⟩ := hts
  have tU : ∀ t, t ∈ M.U b W ↔ t ∈ ts := fun t => M.mem_U.trans (tmem t).symm
  have hcA : ∀ {Γ : Ct} {pos q : Pos} {ea eb : Expr}, True := fun {_ _ _ _ _} => trivial
  refine js_par2N (O1 := oX P w (prD b W)) (O2 := oX P w (owD b W)) 11 12 rfl sc_law.nd (jn_call (a := (b, W)) c.alone (hr.mono (by decide)) hbw (ja_cons (je_name 7) (ja1 (je_name 8))) (fun _ => rfl)) (fun p => jn_call (a := (b, W)) c.own (hr.mono (by decide)) hbw (ja_cons (je_name 7) (ja1 (je_name 8))) (fun _ => rfl)) fun p q => ?_
  refine js_skipB (jt_w (jw_or (rt_showing 11 0 rfl rfl (jt_sameT (ts := M.U b W) (us := ts) (g := fun t => dN (M.opt b W t)) (h := fun t => dN (M.opt b W t)) hr (rdx _) (rdx _) (je_name 11) (je_name 9) Und tnd tU (fun _ _ => rfl) fun _ _ => rfl)) fun _ => jw_or (rt_showing 11 0 rfl rfl (jt_not (jt_val (je_isiDict fr (rdx (prD b W)) (je_name 11))))) fun _ => jw_or (rt_showing 12 1 rfl rfl (jt_sameT (ts := M.U b W) (us := M.U b W) (g := fun t => wyD (M.ownW b W t)) (h := fun t => wyD (M.ownW b W t)) hr (rdx _) (rdx _) (je_name 12) (je_name 10) Und Und (fun _ => Iff.rfl) (fun _ _ => rfl) fun _ _ => wyD_fine _)) fun _ => jw_or1 (rt_showing 12 1 rfl rfl (jt_not (jt_val (je_isiDict fr (rdx (owD b W)) (je_name 12))))))) rfl ?_
  refine js_skipB (jt_w (jw_or (rt_showing 12 1 rfl rfl (jt_isntT (k := true) (je_call c.choice (hr.mono (by decide)) (b, W) hbw (ja_cons (je_name 7) (ja_cons (je_name 8) (ja1 (je_name 12)))) (fun _ _ _ h => h)))) fun _ => jw_or1 (rt_showing 11 0 rfl rfl (jt_val (je_any (bs := (M.U b W).map fun _ => false) rfl fr (je_imp (je_new (jn_lc [("_law_price_here", 23)] (M.U b W) (fun t => vN (M.opt b W t)) (fun _ => true) (fun _ => vB false) rfl sc_law.nd (blkOk_by (by rfl)) (ji_imp (ji_values (ps := prD b W) (je_name 11)) (by unfold prD pd; rw [List.map_map]; rfl)) (U_small ok wok) ?_)) fun v K h => ?_)))))) (by simp) ?_
  · intro t ht A' O v' Pc'
    exact jelt1 23 sc_law.nd fun s H0 C cl fp => ⟨jts_nil, fun _ => je_isiBool (i := ((M.opt b W t : Nat) : Int)) fr (je_name 23)⟩
  · rw [List.filter_eq_self.mpr (fun _ _ => rfl)] at h
    rw [List.map_map]; exact h
  refine js_dpopE (p := p) (c := fun t : Thg => t ∈ M.U b W) (kf := encT) (ps := prD b W) 0 hr (je_name 11) (je_imp (je_call c.some_ (hr.mono (by decide)) ((B, G, alw), (M.U b W).map encT) ⟨hT, by rw [List.length_map]; exact hU1, by rw [List.length_map]; exact hUl⟩ (ja_cons (je_name 1) (ja1 (je_imp (je_new (jn_sortL (ts := M.U b W) hr fr (rdl _) (je_imp (je_new (jn_listX rfl fr (rdyO (ps := prD b W) 0) (je_name 11))) fun v K h => ?_))) fun v K h => ?_))) (fun _ _ _ h => h)) fun v K h => ?_) (fun t ht => ?_) (fun t => ?_) (fun t _ => encT_d8 t) fun t => rfl
  · have e : (prD b W).map (fun q => vD q.1) = (M.U b W).map fun t => vD (encT t) := by unfold prD pd; rw [List.map_map]; rfl
    rw [e] at h
    exact h
  · rw [srt_eq (fun t => Iff.rfl) Und (M.U_sorted b W)] at h
    show (vL (((M.U b W).map encT).map vD)).p v K
    rw [List.map_map]
    exact h
  · obtain ⟨d, hd, h⟩ := h
    obtain ⟨t, ht, rfl⟩ := List.mem_map.mp hd
    exact ⟨t, ht, h⟩
  · rw [show lk (prD b W) (encT t) = some (vN (M.opt b W t)) from pd_some ht]; rfl
  refine js_clear (p := q) (ps := owD b W) 1 (je_name 12) ?_
  refine js_forget 0 (js_forget 0 ?_)
  refine js_skipB (jt_w (jw_or (jt_sameT (ts := M.U b W) (us := ts) (g := fun t => dN (M.opt b W t)) (h := fun t => dN (M.opt b W t)) hr (rdx _) (rdx _) (je_call c.alone (hr.mono (by decide)) (b, W) hbw (ja_cons (je_name 7) (ja1 (je_name 8))) (fun _ _ _ h => vNew_vp h)) (je_name 9) Und tnd tU (fun _ _ => rfl) fun _ _ => rfl) fun _ => jw_or1 (jt_sameT (ts := M.U b W) (us := M.U b W) (g := fun t => wyD (M.ownW b W t)) (h := fun t => wyD (M.ownW b W t)) hr (rdx _) (rdx _) (je_call c.own (hr.mono (by decide)) (b, W) hbw (ja_cons (je_name 7) (ja1 (je_name 8))) (fun _ _ _ h => vNew_vp h)) (je_name 10) Und Und (fun _ => Iff.rfl) (fun _ _ => rfl) fun _ _ => wyD_fine _))) rfl ?_
  refine js_set (P := vX P w (prD b W)) 11 sc_law.nd (je_call c.alone (hr.mono (by decide)) (b, W) hbw (ja_cons (je_name 7) (ja1 (je_name 8))) (fun _ _ _ h => vNew_vp h)) ?_
  refine js_setQ (c := fun v => v < W.length) (f := vN) 13 sc_law.nd (je_pick c.pick hr hT (by omega) (by omega) (je_name 1) (je_imp (je_lenT (ds := W.map vlD) fr (je_name 5)) fun v K h => by rw [List.length_map] at h; exact h)) fun v hv => ?_
  have hfw : Fw b W v := ⟨ok, wok, by omega, hv⟩
  -- the tree
  refine js_if (B := (· = decide (((M.tz W v : Nat) : Int) ≤ 60))) (fun Γ => ∃ x14 x15 x16, Γ = ⟨gL P w CB CW CR B (some P') (some (vRg 1 101)) b W ts (some (vE (.ref q))) v x14 x15 x16, [], [(vv, Pc)]⟩) (jt_le (je_ixL (rdl ((szs W).map vN)) (je_call c.trees (hr.mono (by decide)) (b, W) hbw (ja1 (je_name 5)) (fun _ _ _ h => h)) (je_name 13) (at_nat (szs_at hv))) je_int) (fun hb60 => ?_) (fun _ => js_nil ⟨_, _, _, rfl⟩) ?_
  · have h60 : M.tz W v ≤ 60 := by have := of_decide_eq_true hb60.symm; omega
    have twok := M.unf_ok (b := b) wok hv (by omega : M.tz W v ≤ 200)
    refine js_set (P := webV CW CR (M.unfW W v)) 14 sc_law.nd (je_call c.unf (hr.mono (by decide)) (b, W, v) ⟨hfw, h60⟩ (ja_cons (je_name 8) (ja1 (je_name 13))) (fun _ _ _ h => h)) ?_
    have hlen : 1 ≤ (M.unfW W v).length := by rw [M.unfW_len wok hv]; exact M.tz_pos wok hv
    refine js_set (P := vN ((M.unfW W v).length - 1)) 15 sc_law.nd (je_eq (je_sub (je_lenT (ds := (M.unfW W v).map vlD) fr (je_rows g (je_name 14))) (je_int (i := 1))) ?_) ?_
    · show vZ _ = vZ _
      rw [List.length_map]
      congr 1
      omega
    refine js_for (fun k Γ => Γ = ⟨gL P w CB CW CR B (some P') (some (vRg 1 101)) b W ts (some (vE (.ref q))) v (some (webV CW CR (M.unfW W v))) (some (vN ((M.unfW W v).length - 1))) none, [], [(vv, Pc)]⟩) rfl rfl
      (ji_range1 (n := b.kn) (fr _ (by decide)) (je_pKn (je_name 4)) (Nat.le_trans ok.kn5 (by decide))) rfl ?_ ?_
    · rintro k P'' Γ1 hP2 rfl v2 Pc2
      rw [List.getElem?_map] at hP2
      obtain ⟨k', e1, rfl⟩ := Option.map_eq_some_iff.mp hP2
      refine ⟨_, _, jg_name 16 sc_law.nd, ?_⟩
      refine js_ifLast (jt_in (k := encT (v, k')) (r := decide ((v, k') ∈ ts)) hr (rdx (pd ts (M.opt b W))) (je_tupD (ds := [dN v, dN k']) (ja_cons (je_name 13) (ja1 (je_name 16)))) (je_name 9) ?_ (encT_d8 _)) (fun hin => ?_) (fun _ => js_nil ⟨_, rfl, (by repeat' first | exact True.intro | refine ⟨fun _ _ h => h, ?_⟩), rfl, rfl⟩)
      · by_cases h : (v, k') ∈ ts
        · rw [pd_some h, decide_eq_true h]; rfl
        · rw [pd_none h, decide_eq_false h]; rfl
      · have hin := of_decide_eq_true hin.symm
        have hm : M.Mk b W (v, k') := (tmem _).mp hin
        obtain ⟨r1, r2, r3⟩ := tree_root (k := k') wok hv
        have htr : Tr b (M.unfW W v) ((M.unfW W v).length - 1, k') := tree_tr ok wok hv h60 hm
        have hown : ∀ {Γ : Ct}, True := fun {_} => trivial
        refine js_skipB (jt_neD (d := dN (M.opt b (M.unfW W v) ((M.unfW W v).length - 1, k'))) (e := dN (M.opt b W (v, k'))) hr (je_call c.cost hr (b, M.unfW W v, ((M.unfW W v).length - 1, k')) htr (ja_cons (je_name 7) (ja_cons (je_name 14) (ja_cons (je_call c.own (hr.mono (by decide)) (b, M.unfW W v) ⟨ok, twok⟩ (ja_cons (je_name 7) (ja1 (je_name 14))) (fun _ _ _ h => vNew_vp h)) (ja1 (je_tupD (ds := [encT ((M.unfW W v).length - 1, k')]) (ja1 (je_tupD (ds := [dN ((M.unfW W v).length - 1), dN k']) (ja_cons (je_name 15) (ja1 (je_name 16)))))))))) (fun _ _ _ h => h)) (je_ixX hr (rdx (pd ts (M.opt b W))) (je_name 9) (je_tupD (ds := [dN v, dN k']) (ja_cons (je_name 13) (ja1 (je_name 16)))) (pd_some hin) rfl (encT_d8 (v, k')))) ?_ ?_
        · rw [r2]; simp
        refine js_skipB (jt_neD (d := wyD (M.ownW b (M.unfW W v) ((M.unfW W v).length - 1, k'))) (e := wyD (M.ownW b W (v, k'))) hr (je_ixX hr (rdx (owD b (M.unfW W v))) (je_call c.own (hr.mono (by decide)) (b, M.unfW W v) ⟨ok, twok⟩ (ja_cons (je_name 7) (ja1 (je_name 14))) (fun _ _ _ h => vNew_vp h)) (je_tupD (ds := [dN ((M.unfW W v).length - 1), dN k']) (ja_cons (je_name 15) (ja1 (je_name 16)))) (ow_at htr.made) rfl (encT_d8 ((M.unfW W v).length - 1, k'))) (je_ixX hr (rdx (owD b W)) (je_name 10) (je_tupD (ds := [dN v, dN k']) (ja_cons (je_name 13) (ja1 (je_name 16)))) (ow_at hm) rfl (encT_d8 (v, k'))) (wyD_fine _) (wyD_fine _)) ?_ ?_
        · rw [r3 hm]; simp
        exact js_nil ⟨_, rfl, (by repeat' first | exact True.intro | refine ⟨fun _ _ h => h, ?_⟩), rfl, rfl⟩
    · rintro Γ' rfl
      exact js_nil ⟨_, _, _, rfl⟩
  rintro Γ' ⟨x14, x15, x16, rfl⟩
  -- the part, the folded web
  refine js_set (P := webV CW CR (M.partW W v)) 17 sc_law.nd (je_call c.part (hr.mono (by decide)) (b, W, v) hfw (ja_cons (je_name 8) (ja1 (je_name 13))) (fun _ _ _ h => h)) ?_
  refine js_skipB (jt_not (jt_val (je_call c.moved (hr.mono (by decide)) (M.U b (M.partW W v), M.U b W, (fun t => dN (M.opt b (M.partW W v) t)), (fun t => dN (M.opt b W t)), M.bel W v) (part_mvd ok wok hv) (ja_cons (je_call c.alone (hr.mono (by decide)) (b, M.partW W v) ⟨ok, M.part_ok wok hv⟩ (ja_cons (je_name 7) (ja1 (je_name 17))) (fun _ _ _ h => vNew_vp h)) (ja_cons (je_name 11) (ja1 (je_call c.below (hr.mono (by decide)) (b, W, v) hfw (ja_cons (je_name 8) (ja1 (je_name 13))) (fun _ _ _ h => h))))) (fun _ _ _ h => h)))) rfl ?_
  refine js_tg (je_call c.fold (hr.mono (by decide)) (b, W) hbw (ja1 (je_name 8)) (fun _ _ _ h => h)) (jg_tup (Ps := [webV CW CR (M.foldW W), vD (dTN (M.foldS W W.length).2)]) rfl (jgs_cons (jg_name 18 sc_law.nd) (jgs_cons (jg_name 19 sc_law.nd) jgs_nil))) ?_
  have fok := M.fold_ok (b := b) wok
  have hmv := fold_mvd ok wok (ts := M.U b W) (fun t ht => M.mem_U.mp ht) (U_small ok wok)
  refine js_skipB (jt_w (jw_or (jt_not (jt_val (je_call c.moved (hr.mono (by decide)) (M.U b W, M.U b (M.foldW W), (fun t => dN (M.opt b W t)), (fun t => dN (M.opt b (M.foldW W) t)), (M.foldS W W.length).2) hmv.1 (ja_cons (je_name 11) (ja_cons (je_call c.alone (hr.mono (by decide)) (b, M.foldW W) ⟨ok, fok⟩ (ja_cons (je_name 7) (ja1 (je_name 18))) (fun _ _ _ h => vNew_vp h)) (ja1 (je_name 19)))) (fun _ _ _ h => h)))) fun _ => jw_or1 (jt_not (jt_val (je_call c.moved (hr.mono (by decide)) (M.U b W, M.U b (M.foldW W), (fun t => wyD (M.ownW b W t)), (fun t => wyD (M.ownW b (M.foldW W) t)), (M.foldS W W.length).2) hmv.2 (ja_cons (je_name 10) (ja_cons (je_call c.own (hr.mono (by decide)) (b, M.foldW W) ⟨ok, fok⟩ (ja_cons (je_name 7) (ja1 (je_name 18))) (fun _ _ _ h => vNew_vp h)) (ja1 (je_name 19)))) (fun _ _ _ h => h)))))) rfl ?_
  -- the prices multiplied
  refine js_setQ (c := fun m => 1 ≤ m ∧ m < 1 + 9) (f := vN) 20 sc_law.nd (je_addLt (k := 1) (n := 9) je_int (je_pick c.pick hr hT (by decide) (by decide) (je_name 1) (je_int (i := ((9 : Nat) : Int))))) fun m hm => ?_
  have sok := scl_ok hb hm.1 (by omega : m ≤ 9)
  have swok := scl_wok wok m
  have cm : ∀ {r : Nat}, CMul (m : Int) (r : Int) := fun {r} => .inl ⟨by omega, by omega⟩
  refine js_set (P := vD (rusD (M.scl m b))) 21 sc_law.nd (je_tupleD (ds := (M.scl m b).ru.map rlD) fr (je_imp (je_new (jn_lc [("_law_rule", 24)] b.ru (fun r => vD (rlD r)) (fun _ => true) (fun r => vD (rlD { r with pr := m * r.pr })) rfl sc_law.nd (blkOk_by (by rfl))
      (ji_imp (ji_tupD (ds := b.ru.map rlD) (je_pRu (je_name 4))) (by rw [List.map_map]; rfl)) (Nat.lt_of_le_of_lt ok.ru40 (by decide)) ?_)) fun v K h => ?_)) ?_
  · intro r hr' A' O v' Pc'
    refine jelt1 24 sc_law.nd fun s H0 C cl fp => ⟨jts_nil, fun _ => ?_⟩
    exact je_catD (ds := [dN r.op, dTN r.src, dN r.dst]) (es := [dN (m * r.pr)]) (je_slT (ds := [dN r.op, dTN r.src, dN r.dst, dN r.pr]) (i := none) (j := some 3) (je_name 24) jo_none (jo_some je_int)) (je_tupD (ds := [dN (m * r.pr)]) (ja1 (je_mul' (je_name 20) (je_ixT (ds := [dN r.op, dTN r.src, dN r.dst, dN r.pr]) (d := dN r.pr) (je_name 24) je_int rfl) cm))) (Nat.le_of_ble_eq_true rfl)
  · rw [List.filter_eq_self.mpr (fun _ _ => rfl)] at h
    show (vL (((b.ru.map fun r => { r with pr := m * r.pr }).map rlD).map vD)).p v K
    rw [List.map_map, List.map_map]; exact h
  refine js_set (P := bookV CB (M.scl m b)) 22 sc_law.nd (je_make c.cB (hr.mono (by decide)) g.gB (M.scl m b) sok (ja_cons (je_pAr (bk := b) (je_name 4)) (ja_cons (je_pKn (bk := b) (je_name 4)) (ja_cons (je_name 21) (ja1 (je_tupleD (ds := (M.scl m b).mv.map mvD) fr (je_imp (je_new (jn_lc [("_law_move", 25)] b.mv (fun r => vD (mvD r)) (fun _ => true) (fun r => vD (mvD { r with pr := m * r.pr })) rfl sc_law.nd (blkOk_by (by rfl))
      (ji_imp (ji_tupD (ds := b.mv.map mvD) (je_pMv (je_name 4))) (by rw [List.map_map]; rfl)) (Nat.lt_of_le_of_lt ok.mv20 (by decide)) ?_)) fun v K h => ?_))))))) ?_
  · intro r hr' A' O v' Pc'
    refine jelt1 25 sc_law.nd fun s H0 C cl fp => ⟨jts_nil, fun _ => ?_⟩
    exact je_catD (ds := [dN r.frm, dN r.to]) (es := [dN (m * r.pr)]) (je_slT (ds := [dN r.frm, dN r.to, dN r.pr]) (i := none) (j := some 2) (je_name 25) jo_none (jo_some je_int)) (je_tupD (ds := [dN (m * r.pr)]) (ja1 (je_mul' (je_name 20) (je_ixT (ds := [dN r.frm, dN r.to, dN r.pr]) (d := dN r.pr) (je_name 25) je_int rfl) cm))) (Nat.le_of_ble_eq_true rfl)
  · rw [List.filter_eq_self.mpr (fun _ _ => rfl)] at h
    show (vL (((b.mv.map fun r => { r with pr := m * r.pr }).map mvD).map vD)).p v K
    rw [List.map_map, List.map_map]; exact h
  refine js_skipB (jt_w (jw_or (jt_sameT (ts := M.U b W) (us := M.U b W) (g := fun t => wyD (M.ownW b W t)) (h := fun t => wyD (M.ownW b W t)) hr (rdx _) (rdx _) (je_call c.own (hr.mono (by decide)) (M.scl m b, W) ⟨sok, swok⟩ (ja_cons (je_name 22) (ja1 (je_name 8))) (fun _ v K h => ?_)) (je_name 10) Und Und (fun _ => Iff.rfl) (fun _ _ => rfl) fun _ _ => wyD_fine _) fun _ => jw_or1 (jt_val (je_any (bs := ts.map fun _ => false) rfl fr (je_imp (je_new (jn_lc [("_law_thing", 26)] ts (fun t => vD (encT t)) (fun _ => true) (fun _ => vB false) rfl sc_law.nd (blkOk_by (by rfl)) (ji_imp (ji_keysX (ps := pd ts (M.opt b W)) (je_name 9)) (by unfold pd; rw [List.map_map]; rfl)) ?_ ?_)) fun v K h => ?_))))) (by simp) ?_
  · have h := vNew_vp h
    show (vX P w (owD b W)).p v K
    rw [← scl_owD (W := W) hm.1]
    exact h
  · have := (M.perm_nodup_mem tnd Und fun t => (tU t).symm).length_eq
    rw [this]
    exact U_small ok wok
  · intro t ht A' O v' Pc'
    have htm := (tmem t).mp ht
    refine jelt1 26 sc_law.nd fun s H0 C cl fp => ⟨jts_nil, fun _ => ?_⟩
    refine je_imp (je_neD (d := dN (m * M.opt b W t)) (e := dN (m * M.opt b W t)) hr (je_ixX hr (rdx (prD (M.scl m b) W)) (je_call c.alone (hr.mono (by decide)) (M.scl m b, W) ⟨sok, swok⟩ (ja_cons (je_name 22) (ja1 (je_name 8))) (fun _ _ _ h => vNew_vp h)) (je_name 26) ?_ rfl (encT_d8 t)) (je_mul' (je_name 20) (je_ixX hr (rdx (pd ts (M.opt b W))) (je_name 9) (je_name 26) (pd_some ht) rfl (encT_d8 t)) cm)) fun v K h => ?_
    · rw [show lk (prD (M.scl m b) W) (encT t) = some (vN (M.opt (M.scl m b) W t)) from pd_some (by rw [M.scl_U]; exact M.mem_U.mpr htm), M.scl_opt hm.1 htm]
    · rw [decide_eq_true rfl] at h
      exact h
  · rw [List.filter_eq_self.mpr (fun _ _ => rfl)] at h
    rw [List.map_map]; exact h
  exact js_nil ⟨_, rfl, (by repeat' first | exact True.intro | refine ⟨fun _ _ h => h, ?_⟩), rfl, rfl⟩
end
end Lk
end

section
set_option Elab.async false
set_option linter.all false
set_option maxRecDepth 100000
set_option maxHeartbeats 0
/-! The head: what the module's names stand for, behind the top. Printed by mkhead2.py. -/
namespace Lk
open PySem PySem.Spec PyProof.Rows L2

def d_is_integer : He.DefD := ⟨("is_integer", none), "is_integer", "is_integer", defArgs s_is_integer, defBody s_is_integer, defScope s_is_integer, [], []⟩
def d_is_within : He.DefD := ⟨("is_within", none), "is_within", "is_within", defArgs s_is_within, defBody s_is_within, defScope s_is_within, [], []⟩
def d_is_tuple_of : He.DefD := ⟨("is_tuple_of", none), "is_tuple_of", "is_tuple_of", defArgs s_is_tuple_of, defBody s_is_tuple_of, defScope s_is_tuple_of, [], []⟩
def d_are_within : He.DefD := ⟨("are_within", none), "are_within", "are_within", defArgs s_are_within, defBody s_are_within, defScope s_are_within, [], []⟩
def d_is_rule : He.DefD := ⟨("is_rule", none), "is_rule", "is_rule", defArgs s_is_rule, defBody s_is_rule, defScope s_is_rule, [], []⟩
def d_is_move : He.DefD := ⟨("is_move", none), "is_move", "is_move", defArgs s_is_move, defBody s_is_move, defScope s_is_move, [], []⟩
def d_is_long : He.DefD := ⟨("is_long", none), "is_long", "is_long", defArgs s_is_long, defBody s_is_long, defScope s_is_long, [], []⟩
def d_check_rules : He.DefD := ⟨("check_rules", none), "check_rules", "check_rules", defArgs s_check_rules, defBody s_check_rules, defScope s_check_rules, [], []⟩
def d_check_moves : He.DefD := ⟨("check_moves", none), "check_moves", "check_moves", defArgs s_check_moves, defBody s_check_moves, defScope s_check_moves, [], []⟩
def d_parts_of : He.DefD := ⟨("parts_of", none), "parts_of", "parts_of", defArgs s_parts_of, defBody s_parts_of, defScope s_parts_of, [], []⟩
def d_price_of : He.DefD := ⟨("price_of", none), "price_of", "price_of", defArgs s_price_of, defBody s_price_of, defScope s_price_of, [], []⟩
def d_is_value : He.DefD := ⟨("is_value", none), "is_value", "is_value", defArgs s_is_value, defBody s_is_value, defScope s_is_value, [], []⟩
def d_is_of : He.DefD := ⟨("is_of", none), "is_of", "is_of", defArgs s_is_of, defBody s_is_of, defScope s_is_of, [], []⟩
def d_fits : He.DefD := ⟨("fits", none), "fits", "fits", defArgs s_fits, defBody s_fits, defScope s_fits, [], []⟩
def d_check_web : He.DefD := ⟨("check_web", none), "check_web", "check_web", defArgs s_check_web, defBody s_check_web, defScope s_check_web, [], []⟩
def d_check_value : He.DefD := ⟨("check_value", none), "check_value", "check_value", defArgs s_check_value, defBody s_check_value, defScope s_check_value, [], []⟩
def d_raw_below : He.DefD := ⟨("raw_below", none), "raw_below", "raw_below", defArgs s_raw_below, defBody s_raw_below, defScope s_raw_below, [], []⟩
def d_below : He.DefD := ⟨("below", none), "below", "below", defArgs s_below, defBody s_below, defScope s_below, [], []⟩
def d_raw_part_web : He.DefD := ⟨("raw_part_web", none), "raw_part_web", "raw_part_web", defArgs s_raw_part_web, defBody s_raw_part_web, defScope s_raw_part_web, [], []⟩
def d_part_web : He.DefD := ⟨("part_web", none), "part_web", "part_web", defArgs s_part_web, defBody s_part_web, defScope s_part_web, [], []⟩
def d_tree_sizes : He.DefD := ⟨("tree_sizes", none), "tree_sizes", "tree_sizes", defArgs s_tree_sizes, defBody s_tree_sizes, defScope s_tree_sizes, [], []⟩
def d_unfolded : He.DefD := ⟨("unfolded", none), "unfolded", "unfolded", defArgs s_unfolded, defBody s_unfolded, defScope s_unfolded, [], []⟩
def d_folded : He.DefD := ⟨("folded", none), "folded", "folded", defArgs s_folded, defBody s_folded, defScope s_folded, [], []⟩
def d_ways_of_op : He.DefD := ⟨("ways_of_op", none), "ways_of_op", "ways_of_op", defArgs s_ways_of_op, defBody s_ways_of_op, defScope s_ways_of_op, [], []⟩
def d_raw_ways : He.DefD := ⟨("raw_ways", none), "raw_ways", "raw_ways", defArgs s_raw_ways, defBody s_raw_ways, defScope s_raw_ways, [], []⟩
def d_needs_in_order : He.DefD := ⟨("needs_in_order", none), "needs_in_order", "needs_in_order", defArgs s_needs_in_order, defBody s_needs_in_order, defScope s_needs_in_order, [], []⟩
def d_raw_needs : He.DefD := ⟨("raw_needs", none), "raw_needs", "raw_needs", defArgs s_raw_needs, defBody s_raw_needs, defScope s_raw_needs, [], []⟩
def d_is_giving : He.DefD := ⟨("is_giving", none), "is_giving", "is_giving", defArgs s_is_giving, defBody s_is_giving, defScope s_is_giving, [], []⟩
def d_usable_ways : He.DefD := ⟨("usable_ways", none), "usable_ways", "usable_ways", defArgs s_usable_ways, defBody s_usable_ways, defScope s_usable_ways, [], []⟩
def d_is_usable : He.DefD := ⟨("is_usable", none), "is_usable", "is_usable", defArgs s_is_usable, defBody s_is_usable, defScope s_is_usable, [], []⟩
def d_raw_makeable : He.DefD := ⟨("raw_makeable", none), "raw_makeable", "raw_makeable", defArgs s_raw_makeable, defBody s_raw_makeable, defScope s_raw_makeable, [], []⟩
def d_total : He.DefD := ⟨("total", none), "total", "total", defArgs s_total, defBody s_total, defScope s_total, [], []⟩
def d_better : He.DefD := ⟨("better", none), "better", "better", defArgs s_better, defBody s_better, defScope s_better, [], []⟩
def d_raw_alone : He.DefD := ⟨("raw_alone", none), "raw_alone", "raw_alone", defArgs s_raw_alone, defBody s_raw_alone, defScope s_raw_alone, [], []⟩
def d_alone : He.DefD := ⟨("alone", none), "alone", "alone", defArgs s_alone, defBody s_alone, defScope s_alone, [], []⟩
def d_own : He.DefD := ⟨("own", none), "own", "own", defArgs s_own, defBody s_own, defScope s_own, [], []⟩
def d_is_lot_of : He.DefD := ⟨("is_lot_of", none), "is_lot_of", "is_lot_of", defArgs s_is_lot_of, defBody s_is_lot_of, defScope s_is_lot_of, [], []⟩
def d_is_pair : He.DefD := ⟨("is_pair", none), "is_pair", "is_pair", defArgs s_is_pair, defBody s_is_pair, defScope s_is_pair, [], []⟩
def d_check_wishes : He.DefD := ⟨("check_wishes", none), "check_wishes", "check_wishes", defArgs s_check_wishes, defBody s_check_wishes, defScope s_check_wishes, [], []⟩
def d_source_of : He.DefD := ⟨("source_of", none), "source_of", "source_of", defArgs s_source_of, defBody s_source_of, defScope s_source_of, [], []⟩
def d_comes_back : He.DefD := ⟨("comes_back", none), "comes_back", "comes_back", defArgs s_comes_back, defBody s_comes_back, defScope s_comes_back, [], []⟩
def d_is_choice_of : He.DefD := ⟨("is_choice_of", none), "is_choice_of", "is_choice_of", defArgs s_is_choice_of, defBody s_is_choice_of, defScope s_is_choice_of, [], []⟩
def d_is_choice : He.DefD := ⟨("is_choice", none), "is_choice", "is_choice", defArgs s_is_choice, defBody s_is_choice, defScope s_is_choice, [], []⟩
def d_check_choice : He.DefD := ⟨("check_choice", none), "check_choice", "check_choice", defArgs s_check_choice, defBody s_check_choice, defScope s_check_choice, [], []⟩
def d_raw_needed : He.DefD := ⟨("raw_needed", none), "raw_needed", "raw_needed", defArgs s_raw_needed, defBody s_raw_needed, defScope s_raw_needed, [], []⟩
def d_raw_cost : He.DefD := ⟨("raw_cost", none), "raw_cost", "raw_cost", defArgs s_raw_cost, defBody s_raw_cost, defScope s_raw_cost, [], []⟩
def d_cost : He.DefD := ⟨("cost", none), "cost", "cost", defArgs s_cost, defBody s_cost, defScope s_cost, [], []⟩
def d__law_bag : He.DefD := ⟨("_law_bag", none), "_law_bag", "_law_bag", defArgs s__law_bag, defBody s__law_bag, defScope s__law_bag, [], []⟩
def d__law_pick : He.DefD := ⟨("_law_pick", none), "_law_pick", "_law_pick", defArgs s__law_pick, defBody s__law_pick, defScope s__law_pick, [], []⟩
def d__law_some : He.DefD := ⟨("_law_some", none), "_law_some", "_law_some", defArgs s__law_some, defBody s__law_some, defScope s__law_some, [], []⟩
def d__law_book : He.DefD := ⟨("_law_book", none), "_law_book", "_law_book", defArgs s__law_book, defBody s__law_book, defScope s__law_book, [], []⟩
def d__law_values : He.DefD := ⟨("_law_values", none), "_law_values", "_law_values", defArgs s__law_values, defBody s__law_values, defScope s__law_values, [], []⟩
def d__law_price : He.DefD := ⟨("_law_price", none), "_law_price", "_law_price", defArgs s__law_price, defBody s__law_price, defScope s__law_price, [], []⟩
def d__law_needs : He.DefD := ⟨("_law_needs", none), "_law_needs", "_law_needs", defArgs s__law_needs, defBody s__law_needs, defScope s__law_needs, [], []⟩
def d__law_usable : He.DefD := ⟨("_law_usable", none), "_law_usable", "_law_usable", defArgs s__law_usable, defBody s__law_usable, defScope s__law_usable, [], []⟩
def d__law_alone : He.DefD := ⟨("_law_alone", none), "_law_alone", "_law_alone", defArgs s__law_alone, defBody s__law_alone, defScope s__law_alone, [], []⟩
def d__law_trees : He.DefD := ⟨("_law_trees", none), "_law_trees", "_law_trees", defArgs s__law_trees, defBody s__law_trees, defScope s__law_trees, [], []⟩
def d__law_is_moved : He.DefD := ⟨("_law_is_moved", none), "_law_is_moved", "_law_is_moved", defArgs s__law_is_moved, defBody s__law_is_moved, defScope s__law_is_moved, [], []⟩
def d_law : He.DefD := ⟨("law", none), "law", "law", defArgs s_law, defBody s_law, defScope s_law, [], []⟩
def d_Book_init : He.DefD := ⟨("Book", some "__init__"), "__init__", "Book.__init__", defArgs s_Book_init, defBody s_Book_init, defScope s_Book_init, [], []⟩
def d_Web_init : He.DefD := ⟨("Web", some "__init__"), "__init__", "Web.__init__", defArgs s_Web_init, defBody s_Web_init, defScope s_Web_init, [], []⟩
def d_RawWeb_init : He.DefD := ⟨("RawWeb", some "__init__"), "__init__", "RawWeb.__init__", defArgs s_RawWeb_init, defBody s_RawWeb_init, defScope s_RawWeb_init, [], []⟩
def hdFn : List He.DefD := [d_is_integer, d_is_within, d_is_tuple_of, d_are_within, d_is_rule, d_is_move, d_is_long, d_check_rules, d_check_moves, d_parts_of, d_price_of, d_is_value, d_is_of, d_fits, d_check_web, d_check_value, d_raw_below, d_below, d_raw_part_web, d_part_web, d_tree_sizes, d_unfolded, d_folded, d_ways_of_op, d_raw_ways, d_needs_in_order, d_raw_needs, d_is_giving, d_usable_ways, d_is_usable, d_raw_makeable, d_total, d_better, d_raw_alone, d_alone, d_own, d_is_lot_of, d_is_pair, d_check_wishes, d_source_of, d_comes_back, d_is_choice_of, d_is_choice, d_check_choice, d_raw_needed, d_raw_cost, d_cost, d__law_bag, d__law_pick, d__law_some, d__law_book, d__law_values, d__law_price, d__law_needs, d__law_usable, d__law_alone, d__law_trees, d__law_is_moved, d_law, d_Book_init, d_Web_init, d_RawWeb_init]
def hdFa0 : List He.Fa := [.glo "is_integer", .glo "is_within", .glo "is_tuple_of", .glo "are_within", .glo "is_rule", .glo "is_move", .glo "is_long", .glo "check_rules", .glo "check_moves", .glo "parts_of", .glo "price_of", .glo "is_value", .glo "is_of", .glo "fits", .glo "check_web"]
def hdFa1 : List He.Fa := [.glo "check_value", .glo "raw_below", .glo "below", .glo "raw_part_web", .glo "part_web", .glo "tree_sizes", .glo "unfolded", .glo "folded", .glo "ways_of_op", .glo "raw_ways", .glo "needs_in_order", .glo "raw_needs", .glo "is_giving", .glo "usable_ways", .glo "is_usable"]
def hdFa2 : List He.Fa := [.glo "raw_makeable", .glo "total", .glo "better", .glo "raw_alone", .glo "alone", .glo "own", .glo "is_lot_of", .glo "is_pair", .glo "check_wishes", .glo "source_of", .glo "comes_back", .glo "is_choice_of", .glo "is_choice", .glo "check_choice", .glo "raw_needed"]
def hdFa3 : List He.Fa := [.glo "raw_cost", .glo "cost", .glo "_law_bag", .glo "_law_pick", .glo "_law_some", .glo "_law_book", .glo "_law_values", .glo "_law_price", .glo "_law_needs", .glo "_law_usable", .glo "_law_alone", .glo "_law_trees", .glo "_law_is_moved", .glo "law", .glo "Book"]
def hdFa4 : List He.Fa := [.cls "Book", .mkr "Book", .glo "Web", .cls "Web", .mkr "Web", .glo "RawWeb", .cls "RawWeb", .mkr "RawWeb", .noat "Book" "arities", .noat "Book" "kinds", .noat "Book" "rules", .noat "Book" "moves", .noat "Web" "rows", .noat "RawWeb" "rows", .int "MOST_OPS" 8]
def hdFa5 : List He.Fa := [.int "MOST_KINDS" 5, .int "MOST_PARTS_books" 2, .int "MOST_RULES" 40, .int "MOST_MOVES" 20, .int "MOST_PRICE" 1000, .int "MOST_OP" 7, .int "MOST_PARTS_webs" 2, .int "MOST_VALUES" 200, .int "MOST_UNFOLDED" 2000, .free "len", .free "isinstance", .free "all", .free "any", .free "range", .free "enumerate"]
def hdFa6 : List He.Fa := [.free "zip", .free "list", .free "tuple", .free "sorted", .free "set", .free "reversed", .free "sum", .free "min", .free "abs", .free "int", .free "bool", .free "str", .free "dict"]
def hdFa : List He.Fa := hdFa0 ++ hdFa1 ++ hdFa2 ++ hdFa3 ++ hdFa4 ++ hdFa5 ++ hdFa6
def hdLo0 : List PySem.Str := ["__name__", "LookError", "BadBook", "BadWeb", "TooMany", "NoWeb", "NoValue", "NoWishes", "NoChoice", "is_integer", "is_within", "is_tuple_of", "are_within", "MOST_OPS", "MOST_KINDS"]
def hdLo1 : List PySem.Str := ["MOST_PARTS_books", "MOST_RULES", "MOST_MOVES", "MOST_PRICE", "is_rule", "is_move", "is_long", "check_rules", "check_moves", "parts_of", "Book", "price_of", "MOST_OP", "MOST_PARTS_webs", "MOST_VALUES"]
def hdLo2 : List PySem.Str := ["MOST_UNFOLDED", "is_value", "Web", "RawWeb", "is_of", "fits", "check_web", "check_value", "raw_below", "below", "raw_part_web", "part_web", "tree_sizes", "unfolded", "folded"]
def hdLo3 : List PySem.Str := ["ways_of_op", "raw_ways", "needs_in_order", "raw_needs", "is_giving", "usable_ways", "is_usable", "raw_makeable", "total", "better", "raw_alone", "alone", "own", "is_lot_of", "is_pair"]
def hdLo4 : List PySem.Str := ["check_wishes", "source_of", "comes_back", "is_choice_of", "is_choice", "check_choice", "raw_needed", "raw_cost", "cost", "_law_bag", "_law_pick", "_law_some", "_law_book", "_law_values", "_law_price"]
def hdLo5 : List PySem.Str := ["_law_needs", "_law_usable", "_law_alone", "_law_trees", "_law_is_moved"]
def hdLo : List PySem.Str := hdLo0 ++ hdLo1 ++ hdLo2 ++ hdLo3 ++ hdLo4 ++ hdLo5

/-- an instance's class, asked of another -/
def isiB (K : PySem.W.Frag) (C D : Addr) : Bool := He.eqO (PySem.W.findIn K (.ref C) "__class__") (some (some (.builtin "object.__class__"))) && (He.eqO (PySem.W.specialIn K (.builtin "object.__class__") "__get__") (some (some (.builtin "getset_descriptor.__get__"))) &&
  (decide (PySem.W.takesIn K (.builtin "object.__class__") = some true) && (decide (PySem.W.mroIn K C (.type "object") = some true) && decide (PySem.W.kitOne K (.ref C) (.ref D) = some true))))
theorem isiB_ok {K : PySem.W.Frag} {C D : Addr} (h : isiB K C D = true) : Isi K C D := by
  obtain ⟨h1, h⟩ := He.ba h
  obtain ⟨h2, h⟩ := He.ba h
  obtain ⟨h3, h⟩ := He.ba h
  obtain ⟨h4, h5⟩ := He.ba h
  exact ⟨He.eqO_ok h1, He.eqO_ok h2, of_decide_eq_true h3, of_decide_eq_true h4, of_decide_eq_true h5⟩
def hdEx (K : PySem.W.Frag) : Bool := isiB K (He.ga K "Web") (He.ga K "Web") && isiB K (He.ga K "RawWeb") (He.ga K "Web")
abbrev AlZ : Type := He.AlD × Bool
def obsZ (g : Addr → Option Obj) : AlZ := (He.obsD hdFa hdFn (He.frG g (He.asD g 5)), hdEx (He.frG g (He.asD g 5)))
def hdHk : PySem.W.Hook where
  α := AlZ
  obs := fun s => obsZ s.heap.get?
  val := fun _ => (He.valD hdFn, true)
  says := fun _ h => ∃ K : PySem.W.Frag, K.In h ∧ He.SaysD hdFa hdFn K ∧ hdEx K = true
  of := fun _ _ e => ⟨_, He.frG_in, congrArg (fun z : AlZ => z.1) e, congrArg (fun z : AlZ => z.2) e⟩
  keeps := fun _ _ _ ⟨K, hK, c⟩ k => ⟨K, PySem.W.Frag.In.keeps hK k, c⟩
abbrev hdR : PySem.W.OpenRow := PySem.W.OpenLaw.row PySem.Challenge.rw_lookdown_k18_whole_alone_prices_and_own
def hdOb (s : PySem.W.SharedT) : AlZ := obsZ (HandSHeadRun.getT s)
theorem hdOb_eq (s : PySem.W.SharedT) : hdOb s = hdHk.obs s.abs := by
  have e : HandSHeadRun.getT s = s.abs.heap.get? := funext fun a => HandSHeadRun.getT_eq s a
  show obsZ _ = obsZ _
  rw [e]
theorem hdRun (w : World) : HandSHeadRun.RunEq hdR (PySem.W.view hdR.prog [88]) hdHk hdOb 8000 hdLo w := by
  intro os
  kernel_rfl
end Lk
end

section
set_option Elab.async false
set_option linter.all false
set_option maxRecDepth 100000
set_option maxHeartbeats 1000000
/-! Each def keeps its promise; the law's end. Printed by mkend.py. -/
namespace Lk
open PySem PySem.Spec PyProof.Rows L2
section
variable {P : Program} {w : World} {K : PySem.W.Frag} {h : Heap} {mg : Str → Option Value}
abbrev cB (K : PySem.W.Frag) : Addr := He.ga K "Book"
abbrev cW (K : PySem.W.Frag) : Addr := He.ga K "Web"
abbrev cR (K : PySem.W.Frag) : Addr := He.ga K "RawWeb"

theorem hd_free (X : K.In h) (G : h.Ns mainGlobals mg) (c : He.SaysD hdFa hdFn K) : Free mg := by
  intro x hx
  simp only [blts, List.mem_cons, List.not_mem_nil, or_false] at hx
  rcases hx with rfl | rfl | rfl | rfl | rfl | rfl | rfl | rfl | rfl | rfl | rfl | rfl | rfl | rfl | rfl | rfl | rfl | rfl | rfl
  · exact He.free_ok X G (c.fact 84 (f := .free "len") rfl)
  · exact He.free_ok X G (c.fact 85 (f := .free "isinstance") rfl)
  · exact He.free_ok X G (c.fact 86 (f := .free "all") rfl)
  · exact He.free_ok X G (c.fact 87 (f := .free "any") rfl)
  · exact He.free_ok X G (c.fact 88 (f := .free "range") rfl)
  · exact He.free_ok X G (c.fact 89 (f := .free "enumerate") rfl)
  · exact He.free_ok X G (c.fact 90 (f := .free "zip") rfl)
  · exact He.free_ok X G (c.fact 91 (f := .free "list") rfl)
  · exact He.free_ok X G (c.fact 92 (f := .free "tuple") rfl)
  · exact He.free_ok X G (c.fact 93 (f := .free "sorted") rfl)
  · exact He.free_ok X G (c.fact 94 (f := .free "set") rfl)
  · exact He.free_ok X G (c.fact 95 (f := .free "reversed") rfl)
  · exact He.free_ok X G (c.fact 96 (f := .free "sum") rfl)
  · exact He.free_ok X G (c.fact 97 (f := .free "min") rfl)
  · exact He.free_ok X G (c.fact 98 (f := .free "abs") rfl)
  · exact He.free_ok X G (c.fact 99 (f := .free "int") rfl)
  · exact He.free_ok X G (c.fact 100 (f := .free "bool") rfl)
  · exact He.free_ok X G (c.fact 101 (f := .free "str") rfl)
  · exact He.free_ok X G (c.fact 102 (f := .free "dict") rfl)
theorem hd_gk (X : K.In h) (G : h.Ns mainGlobals mg) (c : He.SaysD hdFa hdFn K) (cx : hdEx K = true) : Gk K mg (cB K) (cW K) (cR K) where
  fr := hd_free X G c
  cB := He.cls_ok (c.fact 60 (f := .cls "Book") rfl)
  cW := He.cls_ok (c.fact 63 (f := .cls "Web") rfl)
  cR := He.cls_ok (c.fact 66 (f := .cls "RawWeb") rfl)
  nB := fun f hf => by
    simp only [List.mem_cons, List.not_mem_nil, or_false] at hf
    rcases hf with rfl | rfl | rfl | rfl
    · exact He.noat_ok (c.fact 68 (f := .noat "Book" "arities") rfl)
    · exact He.noat_ok (c.fact 69 (f := .noat "Book" "kinds") rfl)
    · exact He.noat_ok (c.fact 70 (f := .noat "Book" "rules") rfl)
    · exact He.noat_ok (c.fact 71 (f := .noat "Book" "moves") rfl)
  nW := He.noat_ok (c.fact 72 (f := .noat "Web" "rows") rfl)
  nR := He.noat_ok (c.fact 73 (f := .noat "RawWeb" "rows") rfl)
  gB := He.glo_ok X G (c.fact 59 (f := .glo "Book") rfl)
  gW := He.glo_ok X G (c.fact 62 (f := .glo "Web") rfl)
  gR := He.glo_ok X G (c.fact 65 (f := .glo "RawWeb") rfl)
  iW := isiB_ok (He.ba cx).1
  iR := isiB_ok (He.ba cx).2
  i1 := He.int_ok X G (c.fact 74 (f := .int "MOST_OPS" 8) rfl)
  i2 := He.int_ok X G (c.fact 75 (f := .int "MOST_KINDS" 5) rfl)
  i3 := He.int_ok X G (c.fact 76 (f := .int "MOST_PARTS_books" 2) rfl)
  i4 := He.int_ok X G (c.fact 77 (f := .int "MOST_RULES" 40) rfl)
  i5 := He.int_ok X G (c.fact 78 (f := .int "MOST_MOVES" 20) rfl)
  i6 := He.int_ok X G (c.fact 79 (f := .int "MOST_PRICE" 1000) rfl)
  i7 := He.int_ok X G (c.fact 80 (f := .int "MOST_OP" 7) rfl)
  i8 := He.int_ok X G (c.fact 81 (f := .int "MOST_PARTS_webs" 2) rfl)
  i9 := He.int_ok X G (c.fact 82 (f := .int "MOST_VALUES" 200) rfl)
  i10 := He.int_ok X G (c.fact 83 (f := .int "MOST_UNFOLDED" 2000) rfl)
theorem hd_cs (base : Heap) (X : K.In h) (G : h.Ns mainGlobals mg) (c : He.SaysD hdFa hdFn K) (cx : hdEx K = true) : Cs P w K mg base (cB K) (cW K) (cR K) := by
  have g := hd_gk X G c cx
  obtain ⟨_, F_is_integer⟩ := c.def_ 0 (d := d_is_integer) rfl
  replace F_is_integer : FnP K "is_integer" s_is_integer _ _ := F_is_integer
  obtain ⟨_, F_is_within⟩ := c.def_ 1 (d := d_is_within) rfl
  replace F_is_within : FnP K "is_within" s_is_within _ _ := F_is_within
  obtain ⟨_, F_is_tuple_of⟩ := c.def_ 2 (d := d_is_tuple_of) rfl
  replace F_is_tuple_of : FnP K "is_tuple_of" s_is_tuple_of _ _ := F_is_tuple_of
  obtain ⟨_, F_are_within⟩ := c.def_ 3 (d := d_are_within) rfl
  replace F_are_within : FnP K "are_within" s_are_within _ _ := F_are_within
  obtain ⟨_, F_is_rule⟩ := c.def_ 4 (d := d_is_rule) rfl
  replace F_is_rule : FnP K "is_rule" s_is_rule _ _ := F_is_rule
  obtain ⟨_, F_is_move⟩ := c.def_ 5 (d := d_is_move) rfl
  replace F_is_move : FnP K "is_move" s_is_move _ _ := F_is_move
  obtain ⟨_, F_is_long⟩ := c.def_ 6 (d := d_is_long) rfl
  replace F_is_long : FnP K "is_long" s_is_long _ _ := F_is_long
  obtain ⟨_, F_check_rules⟩ := c.def_ 7 (d := d_check_rules) rfl
  replace F_check_rules : FnP K "check_rules" s_check_rules _ _ := F_check_rules
  obtain ⟨_, F_check_moves⟩ := c.def_ 8 (d := d_check_moves) rfl
  replace F_check_moves : FnP K "check_moves" s_check_moves _ _ := F_check_moves
  obtain ⟨_, F_Book_init⟩ := c.def_ 59 (d := d_Book_init) rfl
  obtain ⟨_, F_price_of⟩ := c.def_ 10 (d := d_price_of) rfl
  replace F_price_of : FnP K "price_of" s_price_of _ _ := F_price_of
  obtain ⟨_, F_is_value⟩ := c.def_ 11 (d := d_is_value) rfl
  replace F_is_value : FnP K "is_value" s_is_value _ _ := F_is_value
  obtain ⟨_, F_Web_init⟩ := c.def_ 60 (d := d_Web_init) rfl
  obtain ⟨_, F_RawWeb_init⟩ := c.def_ 61 (d := d_RawWeb_init) rfl
  obtain ⟨_, F_is_of⟩ := c.def_ 12 (d := d_is_of) rfl
  replace F_is_of : FnP K "is_of" s_is_of _ _ := F_is_of
  obtain ⟨_, F_fits⟩ := c.def_ 13 (d := d_fits) rfl
  replace F_fits : FnP K "fits" s_fits _ _ := F_fits
  obtain ⟨_, F_check_web⟩ := c.def_ 14 (d := d_check_web) rfl
  replace F_check_web : FnP K "check_web" s_check_web _ _ := F_check_web
  obtain ⟨_, F_check_value⟩ := c.def_ 15 (d := d_check_value) rfl
  replace F_check_value : FnP K "check_value" s_check_value _ _ := F_check_value
  obtain ⟨_, F_ways_of_op⟩ := c.def_ 23 (d := d_ways_of_op) rfl
  replace F_ways_of_op : FnP K "ways_of_op" s_ways_of_op _ _ := F_ways_of_op
  obtain ⟨_, F_raw_ways⟩ := c.def_ 24 (d := d_raw_ways) rfl
  replace F_raw_ways : FnP K "raw_ways" s_raw_ways _ _ := F_raw_ways
  obtain ⟨_, F_needs_in_order⟩ := c.def_ 25 (d := d_needs_in_order) rfl
  replace F_needs_in_order : FnP K "needs_in_order" s_needs_in_order _ _ := F_needs_in_order
  obtain ⟨_, F_is_usable⟩ := c.def_ 29 (d := d_is_usable) rfl
  replace F_is_usable : FnP K "is_usable" s_is_usable _ _ := F_is_usable
  obtain ⟨_, F_usable_ways⟩ := c.def_ 28 (d := d_usable_ways) rfl
  replace F_usable_ways : FnP K "usable_ways" s_usable_ways _ _ := F_usable_ways
  obtain ⟨_, F_raw_makeable⟩ := c.def_ 30 (d := d_raw_makeable) rfl
  replace F_raw_makeable : FnP K "raw_makeable" s_raw_makeable _ _ := F_raw_makeable
  obtain ⟨_, F_total⟩ := c.def_ 31 (d := d_total) rfl
  replace F_total : FnP K "total" s_total _ _ := F_total
  obtain ⟨_, F_better⟩ := c.def_ 32 (d := d_better) rfl
  replace F_better : FnP K "better" s_better _ _ := F_better
  obtain ⟨_, F_raw_alone⟩ := c.def_ 33 (d := d_raw_alone) rfl
  replace F_raw_alone : FnP K "raw_alone" s_raw_alone _ _ := F_raw_alone
  obtain ⟨_, F_alone⟩ := c.def_ 34 (d := d_alone) rfl
  replace F_alone : FnP K "alone" s_alone _ _ := F_alone
  obtain ⟨_, F_own⟩ := c.def_ 35 (d := d_own) rfl
  replace F_own : FnP K "own" s_own _ _ := F_own
  obtain ⟨_, F_source_of⟩ := c.def_ 39 (d := d_source_of) rfl
  replace F_source_of : FnP K "source_of" s_source_of _ _ := F_source_of
  obtain ⟨_, F_comes_back⟩ := c.def_ 40 (d := d_comes_back) rfl
  replace F_comes_back : FnP K "comes_back" s_comes_back _ _ := F_comes_back
  obtain ⟨_, F_is_giving⟩ := c.def_ 27 (d := d_is_giving) rfl
  replace F_is_giving : FnP K "is_giving" s_is_giving _ _ := F_is_giving
  obtain ⟨_, F_is_pair⟩ := c.def_ 37 (d := d_is_pair) rfl
  replace F_is_pair : FnP K "is_pair" s_is_pair _ _ := F_is_pair
  obtain ⟨_, F_is_choice_of⟩ := c.def_ 41 (d := d_is_choice_of) rfl
  replace F_is_choice_of : FnP K "is_choice_of" s_is_choice_of _ _ := F_is_choice_of
  obtain ⟨_, F_is_choice⟩ := c.def_ 42 (d := d_is_choice) rfl
  replace F_is_choice : FnP K "is_choice" s_is_choice _ _ := F_is_choice
  obtain ⟨_, F_check_choice⟩ := c.def_ 43 (d := d_check_choice) rfl
  replace F_check_choice : FnP K "check_choice" s_check_choice _ _ := F_check_choice
  obtain ⟨_, F_raw_needs⟩ := c.def_ 26 (d := d_raw_needs) rfl
  replace F_raw_needs : FnP K "raw_needs" s_raw_needs _ _ := F_raw_needs
  obtain ⟨_, F_raw_needed⟩ := c.def_ 44 (d := d_raw_needed) rfl
  replace F_raw_needed : FnP K "raw_needed" s_raw_needed _ _ := F_raw_needed
  obtain ⟨_, F_raw_cost⟩ := c.def_ 45 (d := d_raw_cost) rfl
  replace F_raw_cost : FnP K "raw_cost" s_raw_cost _ _ := F_raw_cost
  obtain ⟨_, F_is_lot_of⟩ := c.def_ 36 (d := d_is_lot_of) rfl
  replace F_is_lot_of : FnP K "is_lot_of" s_is_lot_of _ _ := F_is_lot_of
  obtain ⟨_, F_check_wishes⟩ := c.def_ 38 (d := d_check_wishes) rfl
  replace F_check_wishes : FnP K "check_wishes" s_check_wishes _ _ := F_check_wishes
  obtain ⟨_, F_cost⟩ := c.def_ 46 (d := d_cost) rfl
  replace F_cost : FnP K "cost" s_cost _ _ := F_cost
  obtain ⟨_, F_raw_below⟩ := c.def_ 16 (d := d_raw_below) rfl
  replace F_raw_below : FnP K "raw_below" s_raw_below _ _ := F_raw_below
  obtain ⟨_, F_below⟩ := c.def_ 17 (d := d_below) rfl
  replace F_below : FnP K "below" s_below _ _ := F_below
  obtain ⟨_, F_raw_part_web⟩ := c.def_ 18 (d := d_raw_part_web) rfl
  replace F_raw_part_web : FnP K "raw_part_web" s_raw_part_web _ _ := F_raw_part_web
  obtain ⟨_, F_part_web⟩ := c.def_ 19 (d := d_part_web) rfl
  replace F_part_web : FnP K "part_web" s_part_web _ _ := F_part_web
  obtain ⟨_, F_tree_sizes⟩ := c.def_ 20 (d := d_tree_sizes) rfl
  replace F_tree_sizes : FnP K "tree_sizes" s_tree_sizes _ _ := F_tree_sizes
  obtain ⟨_, F_unfolded⟩ := c.def_ 21 (d := d_unfolded) rfl
  replace F_unfolded : FnP K "unfolded" s_unfolded _ _ := F_unfolded
  obtain ⟨_, F_folded⟩ := c.def_ 22 (d := d_folded) rfl
  replace F_folded : FnP K "folded" s_folded _ _ := F_folded
  obtain ⟨_, F__law_pick⟩ := c.def_ 48 (d := d__law_pick) rfl
  replace F__law_pick : FnP K "_law_pick" s__law_pick _ _ := F__law_pick
  obtain ⟨_, F__law_bag⟩ := c.def_ 47 (d := d__law_bag) rfl
  replace F__law_bag : FnP K "_law_bag" s__law_bag _ _ := F__law_bag
  obtain ⟨_, F__law_some⟩ := c.def_ 49 (d := d__law_some) rfl
  replace F__law_some : FnP K "_law_some" s__law_some _ _ := F__law_some
  obtain ⟨_, F__law_values⟩ := c.def_ 51 (d := d__law_values) rfl
  replace F__law_values : FnP K "_law_values" s__law_values _ _ := F__law_values
  obtain ⟨_, F__law_book⟩ := c.def_ 50 (d := d__law_book) rfl
  replace F__law_book : FnP K "_law_book" s__law_book _ _ := F__law_book
  obtain ⟨_, F__law_price⟩ := c.def_ 52 (d := d__law_price) rfl
  replace F__law_price : FnP K "_law_price" s__law_price _ _ := F__law_price
  obtain ⟨_, F__law_needs⟩ := c.def_ 53 (d := d__law_needs) rfl
  replace F__law_needs : FnP K "_law_needs" s__law_needs _ _ := F__law_needs
  obtain ⟨_, F__law_trees⟩ := c.def_ 56 (d := d__law_trees) rfl
  replace F__law_trees : FnP K "_law_trees" s__law_trees _ _ := F__law_trees
  obtain ⟨_, F__law_is_moved⟩ := c.def_ 57 (d := d__law_is_moved) rfl
  replace F__law_is_moved : FnP K "_law_is_moved" s__law_is_moved _ _ := F__law_is_moved
  obtain ⟨_, F__law_usable⟩ := c.def_ 54 (d := d__law_usable) rfl
  replace F__law_usable : FnP K "_law_usable" s__law_usable _ _ := F__law_usable
  obtain ⟨_, F__law_alone⟩ := c.def_ 55 (d := d__law_alone) rfl
  replace F__law_alone : FnP K "_law_alone" s__law_alone _ _ := F__law_alone
  have c_is_integer := fc_is_integer (P := P) (w := w) (base := base) g.fr F_is_integer (He.glo_ok X G (c.fact 0 (f := .glo "is_integer") rfl))
  have c_is_within := fc_is_within (P := P) (w := w) (base := base) c_is_integer F_is_within (He.glo_ok X G (c.fact 1 (f := .glo "is_within") rfl))
  have c_is_tuple_of := fc_is_tuple_of (P := P) (w := w) (base := base) g.fr F_is_tuple_of (He.glo_ok X G (c.fact 2 (f := .glo "is_tuple_of") rfl))
  have c_are_within := fc_are_within (P := P) (w := w) (base := base) g.fr c_is_within F_are_within (He.glo_ok X G (c.fact 3 (f := .glo "are_within") rfl))
  have c_is_rule := fc_is_rule (P := P) (w := w) (base := base) g c_is_tuple_of c_is_within c_are_within F_is_rule (He.glo_ok X G (c.fact 4 (f := .glo "is_rule") rfl))
  have c_is_move := fc_is_move (P := P) (w := w) (base := base) g c_is_tuple_of c_is_within c_are_within F_is_move (He.glo_ok X G (c.fact 5 (f := .glo "is_move") rfl))
  have c_is_long := fc_is_long (P := P) (w := w) (base := base) g F_is_long (He.glo_ok X G (c.fact 6 (f := .glo "is_long") rfl))
  have c_check_rules := fc_check_rules (P := P) (w := w) (base := base) g c_is_rule F_check_rules (He.glo_ok X G (c.fact 7 (f := .glo "check_rules") rfl))
  have c_check_moves := fc_check_moves (P := P) (w := w) (base := base) g c_is_move F_check_moves (He.glo_ok X G (c.fact 8 (f := .glo "check_moves") rfl))
  have i_Book := fi_Book (P := P) (w := w) (base := base) g c_is_within c_are_within c_is_long c_check_rules c_check_moves F_Book_init (He.mkr_ok (c.fact 61 (f := .mkr "Book") rfl))
  have c_price_of := fc_price_of (P := P) (w := w) (base := base) g F_price_of (He.glo_ok X G (c.fact 10 (f := .glo "price_of") rfl))
  have c_is_value := fc_is_value (P := P) (w := w) (base := base) g c_is_tuple_of c_is_within F_is_value (He.glo_ok X G (c.fact 11 (f := .glo "is_value") rfl))
  have i_Web := fi_Web (P := P) (w := w) (base := base) g c_is_value F_Web_init (He.mkr_ok (c.fact 64 (f := .mkr "Web") rfl))
  have i_RawWeb := fi_Raw (P := P) (w := w) (base := base) g F_RawWeb_init (He.mkr_ok (c.fact 67 (f := .mkr "RawWeb") rfl))
  have c_is_of := fc_is_of (P := P) (w := w) (base := base) g F_is_of (He.glo_ok X G (c.fact 12 (f := .glo "is_of") rfl))
  have c_fits := fc_fits (P := P) (w := w) (base := base) g c_is_of F_fits (He.glo_ok X G (c.fact 13 (f := .glo "fits") rfl))
  have c_check_web := fc_check_web (P := P) (w := w) (base := base) g c_fits F_check_web (He.glo_ok X G (c.fact 14 (f := .glo "check_web") rfl))
  have c_check_value := fc_check_value (P := P) (w := w) (base := base) g c_is_within F_check_value (He.glo_ok X G (c.fact 15 (f := .glo "check_value") rfl))
  have c_ways_of_op := fc_ways_of_op (P := P) (w := w) (base := base) g F_ways_of_op (He.glo_ok X G (c.fact 23 (f := .glo "ways_of_op") rfl))
  have c_raw_ways := fc_raw_ways (P := P) (w := w) (base := base) g c_ways_of_op F_raw_ways (He.glo_ok X G (c.fact 24 (f := .glo "raw_ways") rfl))
  have c_needs_in_order := fc_needs_in_order (P := P) (w := w) (base := base) g F_needs_in_order (He.glo_ok X G (c.fact 25 (f := .glo "needs_in_order") rfl))
  have c_is_usable := fc_is_usable (P := P) (w := w) (base := base) g c_needs_in_order F_is_usable (He.glo_ok X G (c.fact 29 (f := .glo "is_usable") rfl))
  have c_usable_ways := fc_usable_ways (P := P) (w := w) (base := base) g c_raw_ways c_is_usable F_usable_ways (He.glo_ok X G (c.fact 28 (f := .glo "usable_ways") rfl))
  have c_raw_makeable := fc_raw_makeable (P := P) (w := w) (base := base) g c_usable_ways F_raw_makeable (He.glo_ok X G (c.fact 30 (f := .glo "raw_makeable") rfl))
  have c_total := fc_total (P := P) (w := w) (base := base) g c_needs_in_order c_price_of F_total (He.glo_ok X G (c.fact 31 (f := .glo "total") rfl))
  have c_better := fc_better (P := P) (w := w) (base := base) F_better (He.glo_ok X G (c.fact 32 (f := .glo "better") rfl))
  have c_raw_alone := fc_raw_alone (P := P) (w := w) (base := base) g c_usable_ways c_total c_better c_price_of F_raw_alone (He.glo_ok X G (c.fact 33 (f := .glo "raw_alone") rfl))
  have c_alone := fc_alone (P := P) (w := w) (base := base) g c_check_web c_raw_alone F_alone (He.glo_ok X G (c.fact 34 (f := .glo "alone") rfl))
  have c_own := fc_own (P := P) (w := w) (base := base) g c_check_web c_raw_alone F_own (He.glo_ok X G (c.fact 35 (f := .glo "own") rfl))
  have c_source_of := fc_source_of (P := P) (w := w) (base := base) g F_source_of (He.glo_ok X G (c.fact 39 (f := .glo "source_of") rfl))
  have c_comes_back := fc_comes_back (P := P) (w := w) (base := base) g c_source_of F_comes_back (He.glo_ok X G (c.fact 40 (f := .glo "comes_back") rfl))
  have c_is_giving := fc_is_giving (P := P) (w := w) (base := base) g c_raw_ways F_is_giving (He.glo_ok X G (c.fact 27 (f := .glo "is_giving") rfl))
  have c_is_pair := fc_is_pair (P := P) (w := w) (base := base) g c_is_tuple_of F_is_pair (He.glo_ok X G (c.fact 37 (f := .glo "is_pair") rfl))
  have c_is_choice_of := fc_is_choice_of (P := P) (w := w) (base := base) g c_usable_ways c_is_pair c_is_giving c_comes_back F_is_choice_of (He.glo_ok X G (c.fact 41 (f := .glo "is_choice_of") rfl))
  have c_is_choice := fc_is_choice (P := P) (w := w) (base := base) g c_check_web c_is_choice_of F_is_choice (He.glo_ok X G (c.fact 42 (f := .glo "is_choice") rfl))
  have c_check_choice := fc_check_choice (P := P) (w := w) (base := base) g c_is_choice F_check_choice (He.glo_ok X G (c.fact 43 (f := .glo "check_choice") rfl))
  have c_raw_needs := fc_raw_needs (P := P) (w := w) (base := base) g c_needs_in_order F_raw_needs (He.glo_ok X G (c.fact 26 (f := .glo "raw_needs") rfl))
  have c_raw_needed := fc_raw_needed (P := P) (w := w) (base := base) g c_raw_needs F_raw_needed (He.glo_ok X G (c.fact 44 (f := .glo "raw_needed") rfl))
  have c_raw_cost := fc_raw_cost (P := P) (w := w) (base := base) g c_price_of F_raw_cost (He.glo_ok X G (c.fact 45 (f := .glo "raw_cost") rfl))
  have c_is_lot_of := fc_is_lot_of (P := P) (w := w) (base := base) g c_is_pair F_is_lot_of (He.glo_ok X G (c.fact 36 (f := .glo "is_lot_of") rfl))
  have c_check_wishes := fc_check_wishes (P := P) (w := w) (base := base) g c_is_lot_of c_raw_makeable F_check_wishes (He.glo_ok X G (c.fact 38 (f := .glo "check_wishes") rfl))
  have c_cost := fc_cost (P := P) (w := w) (base := base) g c_check_choice c_check_wishes c_raw_needed c_raw_cost F_cost (He.glo_ok X G (c.fact 46 (f := .glo "cost") rfl))
  have c_raw_below := fc_raw_below (P := P) (w := w) (base := base) g F_raw_below (He.glo_ok X G (c.fact 16 (f := .glo "raw_below") rfl))
  have c_below := fc_below (P := P) (w := w) (base := base) g c_check_value c_raw_below F_below (He.glo_ok X G (c.fact 17 (f := .glo "below") rfl))
  have c_raw_part_web := fc_raw_part_web (P := P) (w := w) (base := base) g c_raw_below i_RawWeb F_raw_part_web (He.glo_ok X G (c.fact 18 (f := .glo "raw_part_web") rfl))
  have c_part_web := fc_part_web (P := P) (w := w) (base := base) g c_check_value c_raw_part_web F_part_web (He.glo_ok X G (c.fact 19 (f := .glo "part_web") rfl))
  have c_tree_sizes := fc_tree_sizes (P := P) (w := w) (base := base) g F_tree_sizes (He.glo_ok X G (c.fact 20 (f := .glo "tree_sizes") rfl))
  have c_unfolded := fc_unfolded (P := P) (w := w) (base := base) g c_check_value c_tree_sizes i_RawWeb F_unfolded (He.glo_ok X G (c.fact 21 (f := .glo "unfolded") rfl))
  have c_folded := fc_folded (P := P) (w := w) (base := base) g i_RawWeb F_folded (He.glo_ok X G (c.fact 22 (f := .glo "folded") rfl))
  have c__law_pick := fc__law_pick (P := P) (w := w) (base := base) g.fr F__law_pick (He.glo_ok X G (c.fact 48 (f := .glo "_law_pick") rfl))
  have c__law_bag := fc__law_bag (P := P) (w := w) (base := base) g.fr F__law_bag (He.glo_ok X G (c.fact 47 (f := .glo "_law_bag") rfl))
  have c__law_some := fc__law_some (P := P) (w := w) (base := base) g.fr c__law_pick F__law_some (He.glo_ok X G (c.fact 49 (f := .glo "_law_some") rfl))
  have c__law_values := fc__law_values (P := P) (w := w) (base := base) g.fr c__law_pick F__law_values (He.glo_ok X G (c.fact 51 (f := .glo "_law_values") rfl))
  have c__law_book := fc__law_book (P := P) (w := w) (base := base) g.fr c__law_pick F__law_book (He.glo_ok X G (c.fact 50 (f := .glo "_law_book") rfl))
  have c__law_price := fc__law_price (P := P) (w := w) (base := base) F__law_price (He.glo_ok X G (c.fact 52 (f := .glo "_law_price") rfl))
  have c__law_needs := fc__law_needs (P := P) (w := w) (base := base) g.fr F__law_needs (He.glo_ok X G (c.fact 53 (f := .glo "_law_needs") rfl))
  have c__law_trees := fc__law_trees (P := P) (w := w) (base := base) g.fr F__law_trees (He.glo_ok X G (c.fact 56 (f := .glo "_law_trees") rfl))
  have c__law_is_moved := fc__law_is_moved (P := P) (w := w) (base := base) g.fr F__law_is_moved (He.glo_ok X G (c.fact 57 (f := .glo "_law_is_moved") rfl))
  have c__law_usable := fc__law_usable (P := P) (w := w) (base := base) g.fr c__law_needs F__law_usable (He.glo_ok X G (c.fact 54 (f := .glo "_law_usable") rfl))
  have c__law_alone := fc__law_alone (P := P) (w := w) (base := base) g.fr c__law_needs c__law_price F__law_alone (He.glo_ok X G (c.fact 55 (f := .glo "_law_alone") rfl))
  exact ⟨c__law_bag, c__law_pick, c__law_some, c__law_book, c__law_values, c__law_usable, c__law_alone, c__law_trees, c__law_is_moved, c_alone, c_own, c_is_choice, c_cost, c_part_web, c_below, c_unfolded, c_folded, i_Book, i_Web⟩

theorem hd_facts {f : Addr} (X : K.In h) (G : h.Ns mainGlobals mg) (hfa : mg ("law" : Str) = some (.ref f)) (c : He.SaysD hdFa hdFn K) (cx : hdEx K = true) :
    ∃ fd : FuncData, (∀ (s : Shared) (v : Value), BindsTo s fd ⟨[v], []⟩ [("_law_script", v)]) ∧ ∀ base : Heap, K.In base → base.Ns mainGlobals mg → FnOk P w K mg base CX0 8 f fd ["_law_script"] (spLaw K) := by
  obtain ⟨fd, F⟩ := c.def_ 58 (d := d_law) rfl
  have e := hfa.symm.trans (He.glo_ok X G (c.fact 58 (f := .glo "law") rfl))
  cases e
  have b := FunD.bindsA (ps := ["_law_script"]) F fun _ _ _ _ _ _ us hl => match us, hl with | [_], _ => rfl
  exact ⟨fd, fun s v => b s [v] rfl, fun base _ _ => fn_law (hd_gk X G c cx) (hd_cs base X G c cx) F⟩
/-- the law's promise, at the script -/
theorem law_end {H : Hp} {a : Addr} {ns : List Int} (hl : ns.length < sizeLine) (hS : SqL K H a (ns.map V.int)) : spLaw K [.ref a] H (fun v _ => v = .bl true) fun _ _ _ => False := by
  refine ⟨Th.nil, fun _ => false, ns, fun _ z => (nomatch z), fun _ z => (nomatch z), trivial, ⟨rfl, hl⟩, .cons ⟨a, rfl, ?_⟩ .nil, fun v H' _ h => h⟩
  have e : hid (fun _ => false) H = H := funext fun b => hid_in rfl
  rw [e]
  exact hS
end
end Lk
open PySem PySem.W PySem.Calls PyProof.Rows
theorem PySem.Challenge.cw_lookdown_k18_whole_alone_prices_and_own_holds : PySem.Challenge.rw_lookdown_k18_whole_alone_prices_and_own.Holds := by
  w_on; o_law
  refine HandSHeadRun.head_any (r := OpenLaw.row PySem.Challenge.rw_lookdown_k18_whole_alone_prices_and_own) (q := view (OpenLaw.row PySem.Challenge.rw_lookdown_k18_whole_alone_prices_and_own).prog [88]) (H := Lk.hdHk) (ob := Lk.hdOb) (M := 8000) (loose := Lk.hdLo) (d := HandSHeadRun.topDef (OpenLaw.row PySem.Challenge.rw_lookdown_k18_whole_alone_prices_and_own).prog 88) (kwd := []) Lk.hdOb_eq
    (by kernel_rfl) (fun s => by kernel_rfl) Lk.hdRun (by kernel_rfl) (by kernel_rfl) (by kernel_rfl) (by rfl) (by first | assumption | decide +kernel) (by decide +kernel) ⟨rfl, rfl, rfl, rfl, rfl, by decide +kernel⟩ ?hw ?hc
  case hw => w_witness2
  case hc =>
    refine L2.walk_ofE (l := PySem.Challenge.rw_lookdown_k18_whole_alone_prices_and_own) (n := 63) (k := 8) (x := "_law_script") (CX := L2.CX0) rfl (by decide) (by kernel_rfl) ⟨rfl, by decide, by decide⟩ ?F (fun _ _ _ _ z => z)
    intro w mg fa h Y G hmg0
    obtain ⟨K, KX, c, cx⟩ := Y
    have hmg : mg ("law" : PySem.Str) = some (.ref fa) := by
      have e : (HandSHeadRun.topDef (OpenLaw.row PySem.Challenge.rw_lookdown_k18_whole_alone_prices_and_own).prog 88).name = ("law" : PySem.Str) := by kernel_rfl
      rw [← e]
      exact hmg0
    obtain ⟨fd, hb, hF⟩ := Lk.hd_facts (P := (PySem.Challenge.rw_lookdown_k18_whole_alone_prices_and_own).prog) (w := w) KX G hmg c cx
    exact ⟨K, fd, Lk.spLaw K, KX, hb, fun H a ns hl _ hS => Lk.law_end (Nat.lt_of_le_of_lt hl (by decide)) hS, hF⟩
end
