import PyProof.Rows.All
import Wide.All
import OpenK.AllK
import Wide.FinOn
import HandS.ForMost
import HandS.Conv
import HandS.DictComp
import KE.DataEq
import KE.KDictSum
import KE.KDictKeyed
import KE.GoesDict
import PyProof.Rows.SeqRoads
import HandS.Defaults
import HandS.TupAny
import HandS.TupMul
import HandS.IsInst
import HandS.Property
import HandS.Zip
import HandS.NoneIn
import HandS.Wide
import HandS.Flow
import HandS.RaiseMore
import HandS.Steps
import KE.GoesNew
import HandS.Style
import HandS.Rev
import HandS.Star
import HandS.OwnEq
import PyProof.InstNe
import PyProof.ReprRoads
import PySem.Challenge.RW_wayturns_k81_walks_with_doubles_by_all_r
set_option Elab.async false
set_option linter.all false
set_option maxRecDepth 100000
set_option maxHeartbeats 2000000
/-! NDa: dicts whose keys are tuples of any form, over the hand layer. -/
namespace DL
open PySem L2
/-! ### keys -/
mutual
/-- the value x is the key k -/
inductive NkAt (K : PySem.W.Frag) (H : Hp) : V → NestedKey → Prop
  | non : NkAt K H .non .none
  | int (i : Int) : NkAt K H (.int i) (.num i)
  | str (s : Str) : NkAt K H (.str s) (.text s)
  | tup {a : Addr} {vs : List V} {ks : List NestedKey} : SqT K H a vs → NkAll K H vs ks → NkAt K H (.ref a) (.tup ks)
inductive NkAll (K : PySem.W.Frag) (H : Hp) : List V → List NestedKey → Prop
  | nil : NkAll K H [] []
  | cons {v : V} {vs : List V} {k : NestedKey} {ks : List NestedKey} : NkAt K H v k → NkAll K H vs ks → NkAll K H (v :: vs) (k :: ks)
end
section
variable {X : Cx} {pins : List (Addr × Obj)} {σ : L2.St} {H : Hp} {s : Shared}
mutual
theorem NkAt.is (I : Inv X pins σ H s) {x : V} {k : NestedKey} {u : Value} (h : NkAt X.K H x k) (r : RelV x u) : NestedIs s.heap k u := by
  cases h with
  | non => cases r; exact .none
  | int i => obtain ⟨t, e⟩ := r; subst e; exact .int i t
  | str i => obtain ⟨t, e⟩ := r; subst e; exact .text i t
  | tup h1 h2 =>
    rename_i a vs ks
    obtain rfl : u = Value.ref a := r
    obtain ⟨its, rv, ⟨o, e1, e2, n, e3⟩, _⟩ := I.tuple h1
    exact .tup e1 e2 e3 (NkAll.is I h2 rv)
theorem NkAll.is (I : Inv X pins σ H s) {vs : List V} {ks : List NestedKey} {us : List Value} (h : NkAll X.K H vs ks) (r : Vals vs us) : NestedAll s.heap ks us := by
  cases h with
  | nil => cases r; exact .nil
  | cons h1 h2 =>
    cases r with
    | cons r1 r2 => exact .cons (NkAt.is I h1 r1) (NkAll.is I h2 r2)
end
end
/-! ### entries: key, the key's own tuple, value -/
abbrev NEs := List (NestedKey × Addr × V)
def valN (xs : NEs) (k : NestedKey) : Option V := (xs.find? fun x => decide (x.1 = k)).map (·.2.2)
def putN (xs : NEs) (k : NestedKey) (p : Addr) (v : V) : NEs := if (xs.any fun x => decide (x.1 = k)) = true then xs.map (fun x => if x.1 = k then (x.1, x.2.1, v) else x) else xs ++ [(k, p, v)]
abbrev NR : NEs → List (NestedKey × Addr × Value) → Prop := Paired fun x y => x.1 = y.1 ∧ x.2.1 = y.2.1 ∧ RelV x.2.2 y.2.2
theorem NR.val {xs : NEs} {ys : List (NestedKey × Addr × Value)} (r : NR xs ys) (k : NestedKey) : RelO (valN xs k) ((atKey ys k).map (·.2)) := by
  induction r with
  | nil => exact True.intro
  | @cons p q ps qs h t ih =>
    obtain ⟨h1, _, h2⟩ := h
    by_cases e : p.1 = k
    · have e' : q.1 = k := h1.symm.trans e
      have b : atKey (q :: qs) k = some q.2 := by simp [atKey, List.find?_cons, e']
      have c : valN (p :: ps) k = some p.2.2 := by simp [valN, List.find?_cons, e]
      rw [c, b]; exact h2
    · have e' : ¬ q.1 = k := fun z => e (h1.trans z)
      have b : atKey (q :: qs) k = atKey qs k := by simp [atKey, List.find?_cons, e']
      have c : valN (p :: ps) k = valN ps k := by simp [valN, List.find?_cons, e]
      rw [c, b]; exact ih
theorem NR.any {xs : NEs} {ys : List (NestedKey × Addr × Value)} (r : NR xs ys) (k : NestedKey) : (xs.any fun x => decide (x.1 = k)) = (atKey ys k).isSome := by
  induction r with
  | nil => rfl
  | @cons p q ps qs h t ih =>
    by_cases e : p.1 = k
    · have e' : q.1 = k := h.1.symm.trans e
      simp [atKey, List.find?_cons, e, e']
    · have e' : ¬ q.1 = k := fun z => e (h.1.trans z)
      have b : atKey (q :: qs) k = atKey qs k := by simp [atKey, List.find?_cons, e']
      rw [b, ← ih]; simp [e]
theorem NR.repl {xs : NEs} {ys : List (NestedKey × Addr × Value)} (r : NR xs ys) (k : NestedKey) {v : V} {u : Value} (rv : RelV v u) : NR (xs.map fun x => if x.1 = k then (x.1, x.2.1, v) else x) (ys.map (putAt k u)) := by
  induction r with
  | nil => exact .nil
  | @cons p q ps qs h t ih =>
    rw [List.map_cons, List.map_cons]
    refine .cons ?_ ih
    obtain ⟨h1, h2, h3⟩ := h
    unfold putAt
    by_cases e : p.1 = k
    · rw [if_pos e, if_pos (h1.symm.trans e)]; exact ⟨h1, h2, rv⟩
    · rw [if_neg e, if_neg (fun z => e (h1.trans z))]; exact ⟨h1, h2, h3⟩
theorem NR.put {xs : NEs} {ys : List (NestedKey × Addr × Value)} (r : NR xs ys) (k : NestedKey) {p : Addr} {v : V} {u : Value} (rv : RelV v u) : NR (putN xs k p v) (storedH ys k p u) := by
  unfold putN storedH
  rw [r.any k]
  by_cases q : (atKey ys k).isSome = true
  · rw [if_pos q, if_pos q]; exact r.repl k rv
  · rw [if_neg q, if_neg q]; exact Paired.snoc r ⟨rfl, rfl, rv⟩
theorem NR.length {xs : NEs} {ys : List (NestedKey × Addr × Value)} (r : NR xs ys) : xs.length = ys.length := Paired.length r
theorem NR.at_ {xs : NEs} {ys : List (NestedKey × Addr × Value)} (r : NR xs ys) : ∀ i : Nat, ∀ y, ys[i]? = some y → ∃ x, xs[i]? = some x ∧ x.1 = y.1 ∧ x.2.1 = y.2.1 ∧ RelV x.2.2 y.2.2 := by
  induction r with
  | nil => intro i y h; cases h
  | @cons p q ps qs h t ih =>
    intro i y e
    cases i with
    | zero => cases e; exact ⟨p, rfl, h⟩
    | succ i => exact ih i y e
theorem putN_len (xs : NEs) (k : NestedKey) (p : Addr) (v : V) : (putN xs k p v).length ≤ xs.length + 1 := by
  unfold putN
  split
  · rw [List.length_map]; omega
  · rw [List.length_append]; exact Nat.le_refl _
theorem putN_mem {xs : NEs} {k : NestedKey} {p : Addr} {v : V} {x : NestedKey × Addr × V} (h : x ∈ putN xs k p v) : (∃ y ∈ xs, y.1 = x.1 ∧ y.2.1 = x.2.1) ∨ (x.1 = k ∧ x.2.1 = p) := by
  unfold putN at h
  split at h
  · obtain ⟨y, hy, e⟩ := List.mem_map.mp h
    refine .inl ⟨y, hy, ?_⟩
    subst e
    split <;> exact ⟨rfl, rfl⟩
  · rcases List.mem_append.mp h with h | h
    · exact .inl ⟨x, h, rfl, rfl⟩
    · rw [List.mem_singleton.mp h]; exact .inr ⟨rfl, rfl⟩
/-! ### the object -/
/-- a dict with the entries xs stands at a -/
def nOk (w : World) (a : Addr) (xs : NEs) : Heap → Prop := fun h => xs.length ≤ sizeLine ∧ (a == sysModules) = false ∧ ∃ ys : List (NestedKey × Addr × Value), NR xs ys ∧ (ys.map (·.1)).Nodup ∧
  ∃ o es ep, h.get? a = some o ∧ o.ExactDict ∧ o.data = .dict es ep ∧ es.toList = ys.map fun y => (⟨y.1.hash w, .ref y.2.1, y.2.2⟩ : DictEntry)
abbrev nHO (w : World) (a : Addr) (xs : NEs) : HO := .ext (nOk w a xs)
theorem nOk_stay {w : World} {a : Addr} {xs : NEs} {h1 h2 : Heap} (x : nOk w a xs h1) (k : ∀ o, h1.get? a = some o → h2.get? a = some o) : nOk w a xs h2 := by
  obtain ⟨z, hd, ys, r, nd, o, es, ep, e1, e2⟩ := x
  exact ⟨z, hd, ys, r, nd, o, es, ep, k _ e1, e2⟩
theorem nObj {P : Program} {w : World} {H : Hp} {a : Addr} {xs : NEs} {h : Heap} (x : nOk w a xs h) : ObjOk P w H h a (nHO w a xs) := by
  obtain ⟨_, _, _, _, _, o, _, _, e1, _⟩ := id x
  exact ⟨x, ⟨o, e1⟩, fun h1 h2 y k => nOk_stay y k⟩
/-- what is read: the dict at a, its keys known -/
structure NdAt (K : PySem.W.Frag) (w : World) (H : Hp) (a : Addr) (xs : NEs) : Prop where
  rd : Rd H a (nHO w a xs)
  ks : ∀ x ∈ xs, NkAt K H (.ref x.2.1) x.1 ∧ x.1.depth ≤ 8
section
variable {X : Cx} {pins : List (Addr × Obj)} {σ : L2.St} {H : Hp} {s : Shared} {a b : Addr} {xs : NEs} {k : NestedKey} {v : V} {u r : Value} {A : Around} {E : Value → Shared → Prop}
theorem nd_rd (I : Inv X pins σ H s) (n : NdAt X.K X.w H a xs) : xs.length ≤ sizeLine ∧ (a == sysModules) = false ∧ ∃ ys, NR xs ys ∧ s.heap.DictOfH (nestedKind X.prog X.w) a ys := by
  obtain ⟨⟨z, hd, ys, r, nd, o, es, ep, e1, e2, e3, e4⟩, _⟩ := (show ObjOk X.prog X.w H s.heap a (nHO X.w a xs) from n.rd.ok I.hok)
  refine ⟨z, hd, ys, r, o, es, ep, e1, e2, e3, e4, fun y hy => ?_, nd⟩
  obtain ⟨i, hi, ei⟩ := List.getElem_of_mem hy
  obtain ⟨x, hx, h1, h2, _⟩ := r.at_ i y (by rw [List.getElem?_eq_getElem hi, ei])
  obtain ⟨h3, h4⟩ := n.ks x (List.mem_of_getElem? hx)
  exact ⟨by rw [← h1, ← h2]; exact h3.is I rfl, by rw [← h1]; exact h4⟩
theorem nd_key (I : Inv X pins σ H s) (h : NkAt X.K H (.ref b) k) (hk : k.depth ≤ 8) : (nestedKind X.prog X.w).is s.heap k b := ⟨h.is I rfl, hk⟩
theorem nd_room (hu : A.units + 64 < cLine) {X : Cx} : (nestedKind X.prog X.w).room A.in1 := by show A.units + 1 + 8 < cLine; omega
theorem nd_getItem {Q : Value → Shared → Prop} (hu : A.units + 64 < cLine) (I : Inv X pins σ H s) (n : NdAt X.K X.w H a xs) (hk : NkAt X.K H (.ref b) k) (hd : k.depth ≤ 8) (hv : valN xs k = some v) (h : ∀ w' s', Inv X pins σ H s' → RelV v w' → Q w' s') :
    wpAny (model X.prog X.w) A (getItem (.ref a) (.ref b)) Q E s := by
  obtain ⟨z, _, ys, r, dd⟩ := nd_rd I n
  obtain ⟨w', hw, rw'⟩ := RelO.some_of (v := v) (o := (atKey ys k).map (·.2)) (by rw [← hv]; exact r.val k)
  obtain ⟨p, hp, hp2⟩ := Option.map_eq_some_iff.mp hw
  refine wpAny_getItem_heap (nd_room hu) (nd_key I hk hd) dd hp ?_
  rw [hp2]
  exact h w' _ (I.tok _) rw'
theorem nd_in {Q : Value → Shared → Prop} (hu : A.units + 64 < cLine) (I : Inv X pins σ H s) (n : NdAt X.K X.w H a xs) (hk : NkAt X.K H (.ref b) k) (hd : k.depth ≤ 8) (h : ∀ s', Inv X pins σ H s' → Q (.bool (valN xs k).isSome) s') :
    wpAny (model X.prog X.w) A (compareOp .In (.ref b) (.ref a)) Q E s := by
  obtain ⟨z, hn, ys, r, dd⟩ := nd_rd I n
  refine wpAny_in_heap (nd_room hu) (nd_key I hk hd) hn dd ?_
  have q := (r.val k).isSome_eq
  rw [Option.isSome_map] at q
  rw [← q]
  exact h _ (I.tok _)
theorem nd_notIn {Q : Value → Shared → Prop} (hu : A.units + 64 < cLine) (I : Inv X pins σ H s) (n : NdAt X.K X.w H a xs) (hk : NkAt X.K H (.ref b) k) (hd : k.depth ≤ 8) (h : ∀ s', Inv X pins σ H s' → Q (.bool (!(valN xs k).isSome)) s') :
    wpAny (model X.prog X.w) A (compareOp .NotIn (.ref b) (.ref a)) Q E s := by
  obtain ⟨z, hn, ys, r, dd⟩ := nd_rd I n
  refine PyProof.Rows.wpAny_notIn_heap (nd_room hu) (nd_key I hk hd) hn dd ?_
  have q := (r.val k).isSome_eq
  rw [Option.isSome_map] at q
  rw [← q]
  exact h _ (I.tok _)
theorem nd_get2 {d : V} {Q : Value → Shared → Prop} (hu : A.units + 64 < cLine) (I : Inv X pins σ H s) (n : NdAt X.K X.w H a xs) (hk : NkAt X.K H (.ref b) k) (hd : k.depth ≤ 8) (rd : RelV d r) (h : ∀ w' s', Inv X pins σ H s' → RelV ((valN xs k).getD d) w' → Q w' s') :
    wpAny (model X.prog X.w) A (call (.builtin "dict.get") [.ref a, .ref b, r]) Q E s := by
  obtain ⟨z, hn, ys, rr, dd⟩ := nd_rd I n
  refine call_meetsIn PySem.F.slot_dict_get dd.typeIs PySem.F.entry_dict_get (PySem.F.args_dict_get_3 _ _ _) (meetsH_dict_get_default (nestedKind X.prog X.w) a b hn r) ⟨nd_room hu, k, ys, nd_key I hk hd, dd, h _ _ (I.tok _) ?_⟩
  exact (rr.val k).getD rd
theorem nd_setItem {Q : Unit → Shared → Prop} (hu : A.units + 64 < cLine) (I : Inv X pins σ H s) (e : H a = some (nHO X.w a xs)) (ks : ∀ x ∈ xs, NkAt X.K H (.ref x.2.1) x.1 ∧ x.1.depth ≤ 8) (hk : NkAt X.K H (.ref b) k) (hd : k.depth ≤ 8) (hl : xs.length < sizeLine) (rv : RelV v r)
    (h : ∀ s', Inv X pins σ (upd H a (nHO X.w a (putN xs k b v))) s' → Q () s') : wpAny (model X.prog X.w) A (setItem (.ref a) (.ref b) r) Q E s := by
  obtain ⟨z, hn, ys, rr, dd⟩ := nd_rd I ⟨.inl e, ks⟩
  have hz : ys.length ≤ sizeLine := by rw [← rr.length]; exact z
  refine wpAny_setItem_heap (hsz := hz) (nd_room hu) (nd_key I hk hd) dd fun h' dd' hs => h _ ?_
  obtain ⟨q, es, ep, hq, h2, h3, h4, _, h5⟩ := dd'
  exact d_write I (by rw [e]; exact True.intro) hs ⟨q, hq⟩ (nObj ⟨by have := putN_len xs k b v; omega, hn, _, rr.put k rv, h5, q, es, ep, hq, h2, h3, h4⟩)
theorem nd_len {Q : Value → Shared → Prop} (I : Inv X pins σ H s) (n : NdAt X.K X.w H a xs) (h : ∀ t s', Inv X pins σ H s' → Q (.int xs.length t) s') : wpAny (model X.prog X.w) A (call (.builtin "len") [.ref a]) Q E s := by
  obtain ⟨z, hn, ys, rr, dd⟩ := nd_rd I n
  have e1 : (pairsH ys).length = xs.length := by rw [pairsH_length, rr.length]
  have dk : s.heap.DictKeyed (nestedKind X.prog X.w) a (pairsH ys) := ⟨ys, dd, rfl⟩
  refine PyProof.Rows.call_len_slot (n := (xs.length : Int)) dd.typeIs PySem.F.slot_dict_len (fun Q' hq => len_keyed (kvs := pairsH ys) hn dk (by rw [e1]; exact hq)) (by omega) (by rw [sizeLine_eq] at z; omega) ?_
  exact h _ _ (I.tok _)
/-- list(d) -/
theorem nd_list {Q : Value → Shared → Prop} (hc : A.handled = none) (I : Inv X pins σ H s) (n : NdAt X.K X.w H a xs) (h : ∀ s', Inv X pins σ (upd H s.heap.objs.size (.lst (xs.map fun x => V.ref x.2.1))) s' → Q (.ref s.heap.objs.size) s') :
    wpAny (model X.prog X.w) A (call (.type "list") [.ref a]) Q E s := by
  obtain ⟨z, hn, ys, rr, dd⟩ := nd_rd I n
  obtain ⟨es, ep, hr, hs, he⟩ := dd.raw
  refine PySem.W.kdl_call (KdlSrc.rawDict (es := es) (ep := ep) hn) hc hr (by rw [hs, ← rr.length]; exact z) fun h' tk acc' c' hkeep hS hacc => h _ ?_
  refine I.laid hkeep (Nat.le_refl _) (show ObjOk X.prog X.w _ _ _ (.lst (xs.map fun x => V.ref x.2.1)) from ⟨?_, acc'.toList, c', ?_, ?_⟩)
  · rw [List.length_map]; exact z
  · have el : acc'.toList.length = acc'.size := by simp
    refine vals_of_at (by rw [List.length_map, el, hacc.1, hs, ← rr.length]) fun j x w h1 h2 => ?_
    obtain ⟨hi, e⟩ := hacc.2 j w (by rw [← Array.getElem?_toList]; exact h2)
    obtain ⟨y, hy, k1, _, _⟩ := he j hi
    obtain ⟨x', hx', _, k2, _⟩ := rr.at_ j y hy
    rw [List.getElem?_map, hx'] at h1
    cases h1
    show w = Value.ref x'.2.1
    rw [e, k1, k2]
  · rw [Array.toArray_toList]; exact hS
end
/-! ### {} -/
theorem n_empty {P : Program} {w : World} {H : Hp} (h : Heap) (hb : sysModules < h.objs.size) : ObjOk P w H (h.push { cls := .type "dict", data := .dict #[] }) h.objs.size (nHO w h.objs.size []) :=
  nObj ⟨Nat.zero_le _, beq_eq_false_iff_ne.mpr (Ne.symm (Nat.ne_of_lt hb)), [], .nil, List.nodup_nil, _, #[], 0, Heap.get?_push_size _ rfl, ⟨rfl, rfl, rfl⟩, rfl, rfl⟩
end DL
set_option Elab.async false
set_option linter.all false
set_option maxRecDepth 100000
set_option maxHeartbeats 2000000
/-! NDb: readings and rules for dicts whose keys are tuples of any form. -/
namespace DL
open PySem L2
/-- the world whose hashes the dicts have -/
class Wld where
  w : World
section
variable (K : PySem.W.Frag) (w : World)
def rInN (neg : Bool) : R2 := fun x y H Q => ∃ a b xs k, y = .ref a ∧ x = .ref b ∧ NdAt K w H a xs ∧ NkAt K H x k ∧ k.depth ≤ 8 ∧ Q (.bl (if neg then !(valN xs k).isSome else (valN xs k).isSome)) H
def rIxN : R2 := fun x y H Q => ∃ a b xs k v, x = .ref a ∧ y = .ref b ∧ NdAt K w H a xs ∧ NkAt K H y k ∧ k.depth ≤ 8 ∧ valN xs k = some v ∧ Q v H
def rLenN : List V → Hp → VK → Prop := fun xs H Q => ∃ a es, xs = [.ref a] ∧ NdAt K w H a es ∧ Q (.int es.length) H
def rListN : List V → Hp → VK → Prop := fun xs H Q => ∃ a es, xs = [.ref a] ∧ NdAt K w H a es ∧ ∀ l, H l = none → Q (.ref l) (upd H l (.lst (es.map fun x => V.ref x.2.1)))
/-- {}, to be such a dict -/
def tDNewN : TE := fun _ H Q => ∀ p, H p = none → Q (.ref p) (upd H p (nHO w p []))
/-- d[y] = v -/
def sDPutN (td ty tv : TE) : TS := fun D σ H => tv σ H fun v H1 => td σ H1 fun x H2 => ty σ H2 fun y H3 => ∃ a b xs k, x = .ref a ∧ y = .ref b ∧ H3 a = some (nHO w a xs) ∧ (∀ e ∈ xs, NkAt K H3 (.ref e.2.1) e.1 ∧ e.1.depth ≤ 8) ∧
  NkAt K H3 y k ∧ k.depth ≤ 8 ∧ xs.length < sizeLine ∧ D.nx σ (upd H3 a (nHO w a (putN xs k b v)))
/-- d.get(y, z) -/
def tDGetN (td ty tx : TE) : TE := fun σ H Q => td σ H fun x H1 => ∃ a es, x = .ref a ∧ NdAt K w H1 a es ∧ ty σ H1 fun y H2 => tx σ H2 fun z H3 => ∃ b xs k, y = .ref b ∧ NdAt K w H3 a xs ∧ NkAt K H3 y k ∧ k.depth ≤ 8 ∧ Q ((valN xs k).getD z) H3
end
section
variable {X : Cx}
theorem op_inN (hu : X.A.units + 64 < cLine) : OpR X (compareOp .In) (rInN X.K X.w false) := by
  intro pins s σ H x y v u Q I rx ry h
  obtain ⟨a, b, xs, k, rfl, rfl, n, hk, hd, q⟩ := h
  cases rx; cases ry
  exact nd_in hu I n hk hd fun s' I' => ⟨.bl _, H, I', rfl, q⟩
theorem op_ninN (hu : X.A.units + 64 < cLine) : OpR X (compareOp .NotIn) (rInN X.K X.w true) := by
  intro pins s σ H x y v u Q I rx ry h
  obtain ⟨a, b, xs, k, rfl, rfl, n, hk, hd, q⟩ := h
  cases rx; cases ry
  exact nd_notIn hu I n hk hd fun s' I' => ⟨.bl _, H, I', rfl, q⟩
theorem nd_typeIs {pins : List (Addr × Obj)} {σ : L2.St} {H : Hp} {s : Shared} {a : Addr} {xs : NEs} (I : Inv X pins σ H s) (n : NdAt X.K X.w H a xs) : s.TypeIs (.ref a) "dict" := by
  obtain ⟨_, _, ys, _, dd⟩ := nd_rd I n
  exact dd.typeIs
theorem nd_noDict {pins : List (Addr × Obj)} {σ : L2.St} {H : Hp} {s : Shared} {a : Addr} {xs : NEs} (I : Inv X pins σ H s) (n : NdAt X.K X.w H a xs) : ∀ b, Value.ref a = .ref b → ∃ ob, s.heap.get? b = some ob ∧ ob.dict = none := fun b q => by
  cases q
  obtain ⟨_, _, ys, _, ob, _, _, h1, h2, _⟩ := nd_rd I n
  exact ⟨ob, h1, h2.2.1⟩
theorem ix_N (hu : X.A.units + 64 < cLine) : IxR X (rIxN X.K X.w) := by
  intro value slice pins s σ H x y v u Q I rx ry h hs
  obtain ⟨a, b, xs, k, z, rfl, rfl, n, hk, hd, hv, q⟩ := h
  cases rx; cases ry
  exact PyProof.Rows.tail_any (nd_typeIs I n) PySem.F.slot_dict_getitem.lookup (nd_getItem hu I n hk hd hv fun w' s' I' r => ⟨_, H, I', r, q⟩) hs
theorem call_lenN : CallR X (.builtin "len") (rLenN X.K X.w) := by
  intro pins s σ H xs us Q I r h
  obtain ⟨a, es, rfl, n, q⟩ := h
  obtain ⟨u, rfl, rx⟩ := vals1 r
  obtain rfl : u = Value.ref a := rx
  exact nd_len I n fun t s' I' => ⟨.int _, H, I', ⟨t, rfl⟩, q⟩
theorem call_listN (hc : X.calm = true) : CallR X (.type "list") (rListN X.K X.w) := by
  intro pins s σ H xs us Q I r h
  obtain ⟨a, es, rfl, n, q⟩ := h
  obtain ⟨u, rfl, rx⟩ := vals1 r
  obtain rfl : u = Value.ref a := rx
  exact nd_list (I.ok.hd hc) I n fun s' I' => ⟨.ref _, _, I', rfl, q _ (I.hok.fresh (Nat.le_refl _))⟩
theorem pe_dnewN {pos : Pos} : PE X (.Dict [] [] pos) (tDNewN X.w) := ⟨fun pins s σ H Q I h =>
  wpAny_Dict_empty ⟨.ref s.heap.objs.size, _, I.laid (a := s.heap.objs.size) (o := nHO X.w s.heap.objs.size []) (t' := s.toks) (fun _ _ q => Heap.get?_push_of_some _ q) (Nat.le_refl _) (n_empty s.heap I.big), rfl, h _ (I.hok.fresh (Nat.le_refl _))⟩⟩
theorem ps_dputN {o i value : Expr} {pos pos' : Pos} {td ty tv : TE} (hu : X.A.units + 64 < cLine) (ho : PE X o td) (hi : PE X i ty) (hv : PE X value tv) (hs : swapsWith value (some (.Subscript o i pos')) pos.line X.env = pure false) :
    PS X (.Assign [.Subscript o i pos'] value pos) (sDPutN X.K X.w td ty tv) := by
  refine ⟨fun pins s σ H D I h => ?_⟩
  refine wpAny_Assign_Subscript (thn (hv.run pins s σ H _ I h) fun r s1 ⟨v, H1, I1, rv, q1⟩ => thn (ho.run pins s1 σ H1 _ I1 q1) fun u s2 ⟨x, H2, I2, rx, q2⟩ => thn (hi.run pins s2 σ H2 _ I2 q2) fun iv s3 ⟨y, H3, I3, ry, a, b, xs, k, ex, ey, e, ks, hk, hd, hl, q3⟩ => ?_) hs
  subst ex; subst ey
  obtain rfl : u = Value.ref a := rx
  obtain rfl : iv = Value.ref b := ry
  exact nd_setItem hu I3 e ks hk hd hl rv fun s4 I4 => ⟨σ, _, I4, q3⟩
theorem pe_dgetN {o e f : Expr} {apos cpos : Pos} {td ty tx : TE} (hu : X.A.units + 64 < cLine) (ho : PE X o td) (he : PE X e ty) (hf : PE X f tx) (m : M2 X o "get" apos e f cpos) : PE X (.Call (.Attribute o "get" apos) [e, f] [] cpos) (tDGetN X.K X.w td ty tx) := by
  refine ⟨fun pins s σ H Q I h => ?_⟩
  refine wpAny_Call_method m.base m.few m.line PySem.F.plainAttrs_dict PySem.F.slot_dict_get PySem.F.type_dict_get (thn (ho.run pins s σ H _ I h) fun u s1 ⟨x, H1, I1, rx, a, es, ex, n, q1⟩ => ?_)
  subst ex
  obtain rfl : u = Value.ref a := rx
  refine ⟨nd_typeIs I1 n, nd_noDict I1 n, ?_⟩
  rw [m.trees]
  refine Calls.callWith_builtin rfl (Calls.evalArgs_plain (Calls.spliced_cons (thn (he.run pins s1 σ H1 _ I1 q1) fun iv s2 ⟨y, H2, I2, ry, q2⟩ =>
    Calls.spliced_cons (thn (hf.run pins s2 σ H2 _ I2 q2) fun fv s3 ⟨z, H3, I3, rz, b, xs, k, ey, n3, hk, hd, q3⟩ => Calls.spliced_nil ?_))))
  subst ey
  obtain rfl : iv = Value.ref b := ry
  exact nd_get2 hu I3 n3 hk hd rz fun w' s4 I4 rw' => ⟨_, H3, I4, rw', q3⟩
end
/-! ### walked -/
def ItkN (w : World) (d : Addr) (o : Obj) (xs : NEs) : It :=
  ⟨fun i H => H d = some (.frz o (nHO w d xs)) ∧ i < xs.length, fun i H x H' => H' = H ∧ ∃ e, xs[i]? = some e ∧ x = .ref e.2.1, fun i H => H d = some (.frz o (nHO w d xs)) ∧ xs.length ≤ i⟩
theorem frzN {X : Cx} {pins : List (Addr × Obj)} {σ : L2.St} {H : Hp} {s : Shared} {d : Addr} {o : Obj} {xs : NEs} (I : Inv X pins σ H s) (h : H d = some (.frz o (nHO X.w d xs))) :
    (d == sysModules) = false ∧ s.heap.get? d = some o ∧ o.ExactDict ∧ ∃ (es : Array DictEntry) (ep : Nat), o.data = .dict es ep ∧ es.size = xs.length ∧ ∀ (i : Nat) e, xs[i]? = some e → ∃ en : DictEntry, es[i]? = some en ∧ en.key = .ref e.2.1 := by
  obtain ⟨hd, ⟨z, hs, ys, r, nd, o', es, ep, ho, hx, hdt, he⟩, _⟩ := I.hok d _ h
  rw [hd] at ho
  cases ho
  have hz : es.size = xs.length := by rw [← Array.length_toList, he, List.length_map, r.length]
  refine ⟨hs, hd, hx, es, ep, hdt, hz, fun i e q => ?_⟩
  have hil := (List.getElem?_eq_some_iff.mp q).1
  have hy : ys[i]? = some (ys[i]'(by rw [← r.length]; exact hil)) := List.getElem?_eq_getElem _
  obtain ⟨x, hx', h1, h2, _⟩ := r.at_ i _ hy
  rw [q] at hx'
  cases hx'
  refine ⟨_, by rw [← Array.getElem?_toList, he, List.getElem?_map, hy]; rfl, ?_⟩
  show Value.ref _ = _
  rw [h2]
theorem turn_keysN {P : Program} {w : World} {K : PySem.W.Frag} {tg : Expr} {d : Addr} {o : Obj} {es : Array DictEntry} {ep : Nat} {xs : NEs} (it : Addr) (hod : o.data = .dict es ep) : Turn P w K tg (ItkN w d o xs) [it] it (fun i h => h.IsKeyIter it d i xs.length ep) where
  mem := by simp
  obj := fun i h st b hb => by
    have e : b = it := by simpa using hb
    subst e
    obtain ⟨oi, e, c, dd⟩ := st
    exact ⟨oi, e, fun v z => by rw [dd] at z; cases z⟩
  keep := fun i h h' st k => st.at fun oi e => k it (by simp) oi e
  item := by
    intro X hP hw hK hc i pins s σ H E I hf st hg
    subst hP hw hK
    obtain ⟨hd, hi⟩ := hg
    obtain ⟨f0, f1, f2, f3, f4, f5⟩ := hf it (by simp)
    obtain ⟨hs, hgd, hx, es', ep', hdt, hsz, ent⟩ := frzN I hd
    obtain ⟨rfl, rfl⟩ := dict_ep hod hdt
    have hkv : xs[i]? = some xs[i] := List.getElem?_eq_getElem hi
    obtain ⟨en, hen, hkey⟩ := ent i _ hkv
    refine next_key_item st hgd hdt hsz hen fun h' st' sb => ?_
    have I1 : Inv X pins σ H { s with heap := h' } := I.turned (t' := s.toks) (fun b ob hb e => (sb.2 b hb).trans e) f0 f1 f3 f4 f5
    obtain ⟨oi, e, c, dd⟩ := id st'
    exact ⟨en.key, rfl, go_of (s := { s with heap := h' }) e c dd (by decide) ⟨.ref _, H, I1, hkey, ⟨rfl, _, hkv, rfl⟩, st', fun b hb => (hf b hb).1⟩⟩
  done := by
    intro X hP hw hK hc i pins s σ H E I hf st hg
    subst hP hw hK
    obtain ⟨hd, hi⟩ := hg
    obtain ⟨f0, f1, f2, f3, f4, f5⟩ := hf it (by simp)
    obtain ⟨hs, hgd, hx, es', ep', hdt, hsz, ent⟩ := frzN I hd
    obtain ⟨rfl, rfl⟩ := dict_ep hod hdt
    exact next_key_end (I.ok.hd hc) st hgd hdt hsz hi fun h' eb => ⟨rfl, I.turned (t' := s.toks) (fun b ob hb e => eb b ob hb e) f0 f1 f3 f4 f5⟩
  self := fun A i s Q E st h => by
    refine wpAny_pyIter_slot st.typeIs F.slot_dict_keyiterator_iter (wpAny_call_entry F.slot_dict_keyiterator_iter st.typeIs F.entry_dict_keyiterator_iter ?_ (F.args_dict_keyiterator_iter_1 _))
    show wpAny _ _ (ret (.ref it)) _ _ s
    exact wpAny_pure ⟨_, rfl, "dict_keyiterator", _, st.typeIs, F.slot_dict_keyiterator_next.lookup, h⟩
/-- for x in d: d stands already known, or is locked now -/
def iKeysN (w : World) (td : TE) : TI := fun σ H R => td σ H fun x H1 => ∃ d xs, x = .ref d ∧ ((∃ o, H1 d = some (.frz o (nHO w d xs)) ∧ R (ItkN w d o xs) H1) ∨ (H1 d = some (nHO w d xs) ∧ ∀ o, R (ItkN w d o xs) (upd H1 d (.frz o (nHO w d xs)))))
section
variable {X : Cx} {tg e : Expr} {td : TE}
theorem pi_keysN (he : PE X e td) : PI X tg e (iKeysN X.w td) := by
  refine ⟨fun pins s σ H R I h => ?_⟩
  refine thn (he.run pins s σ H _ I h) fun u s1 ⟨x, H1, I1, rx, d, xs, ex, q⟩ => ?_
  subst ex
  obtain rfl : u = Value.ref d := rx
  rcases q with ⟨o, hd, q⟩ | ⟨hd, q⟩
  · obtain ⟨hs, hgd, hx, es, ep, hdt, hsz, ent⟩ := frzN I1 hd
    refine iter_keys hs hgd hx hdt (pi_one (tk := s1.toks) I1 _ (turn_keysN _ hdt) ⟨_, Heap.get?_push_size _ rfl, rfl, ?_⟩ q)
    rw [hsz] <;> rfl
  · obtain ⟨od, I2⟩ := I1.lock hd trivial
    obtain ⟨hs, hgd, hx, es, ep, hdt, hsz, ent⟩ := frzN I2 upd_same
    refine iter_keys hs hgd hx hdt (pi_one (tk := s1.toks) I2 _ (turn_keysN _ hdt) ⟨_, Heap.get?_push_size _ rfl, rfl, ?_⟩ (q od))
    rw [hsz] <;> rfl
end
end DL
set_option Elab.async false
set_option linter.all false
set_option maxRecDepth 100000
set_option maxHeartbeats 2000000
/-! DL, part a: data (D), what stands frozen (Kn), what a value is (Is), what grows (Go). -/
namespace DL
open PySem L2
/-- data: what a value is, without addresses -/
inductive D where
  | non | bl (b : Bool) | int (i : Int) | str (s : Str)
  | lst (xs : List D) | tup (xs : List D)
  | dK (kvs : List (Key × D)) | dT (kvs : List (List Key × D)) | dN (kvs : List (NestedKey × D))
  | ins (C : Addr) (fs : List (Str × D))
  | st
/-- what stands frozen at an address: an object that is never written, or a state of draws -/
inductive FO where
  | fz (o : HO) | st
abbrev Kn := Addr → Option FO
def isDic : HO → Bool
  | .dK _ => true
  | .dT _ => true
  | .ext _ => true
  | _ => false
/-- the draws that a state has left at most -/
abbrev most : Int := 1000000
def Has (m : Nat) (H : Hp) (a : Addr) : FO → Prop
  | .fz o => H a = some o ∨ (isDic o = true ∧ ∃ ob, H a = some (.frz ob o))
  | .st => ∃ x y z : Int, H a = some (.lst [.int x, .int y, .int z]) ∧ 0 ≤ z ∧ z + m ≤ most
def Le (m : Nat) (B : Kn) (H : Hp) : Prop := ∀ a f, B a = some f → Has m H a f
structure Go (B : Kn) (H : Hp) (B' : Kn) (H' : Hp) : Prop where
  b : ∀ a f, B a = some f → B' a = some f
  h : ∀ a o, H a = some o → B a = none → H' a = some o ∧ B' a = none
  z : ∀ a o u, H a = some (.frz o u) → H' a = some (.frz o u)
theorem Go.refl (B : Kn) (H : Hp) : Go B H B H := ⟨fun _ _ h => h, fun _ _ h k => ⟨h, k⟩, fun _ _ _ h => h⟩
theorem Go.trans {B B1 B2 : Kn} {H H1 H2 : Hp} (x : Go B H B1 H1) (y : Go B1 H1 B2 H2) : Go B H B2 H2 :=
  ⟨fun a f h => y.b a f (x.b a f h), fun a o h k => y.h a o (x.h a o h k).1 (x.h a o h k).2, fun a o u h => y.z a o u (x.z a o u h)⟩
theorem Has.mono {m m' : Nat} (hm : m' ≤ m) {H : Hp} {a : Addr} {f : FO} (h : Has m H a f) : Has m' H a f := by
  cases f with
  | fz o => exact h
  | st =>
    obtain ⟨x, y, z, h1, h2, h3⟩ := h
    exact ⟨x, y, z, h1, h2, by omega⟩
theorem Le.mono {m m' : Nat} (hm : m' ≤ m) {B : Kn} {H : Hp} (h : Le m B H) : Le m' B H := fun a f e => (h a f e).mono hm
/-- a tuple that stands: frozen, or of the written part -/
def TupAt (K : PySem.W.Frag) (B : Kn) (a : Addr) (xs : List V) : Prop :=
  B a = some (.fz (.tup xs)) ∨
    ∃ (o : Obj) (its : Array Value) (n : Nat), K.lookup a = some o ∧ o.cls = .type "tuple" ∧ o.data = .seq its n ∧ its.size ≤ sizeLine ∧ Vals xs its.toList
/-- a key as data -/
def nkD : NestedKey → D
  | .none => .non | .num i => .int i | .text s => .str s | .tup ks => .tup (nkDs ks)
where nkDs : List NestedKey → List D
  | [] => []
  | k :: r => nkD k :: nkDs r
mutual
/-- a key that stands -/
inductive NkB (K : PySem.W.Frag) (B : Kn) : V → NestedKey → Prop
  | non : NkB K B .non .none
  | int (i : Int) : NkB K B (.int i) (.num i)
  | str (s : Str) : NkB K B (.str s) (.text s)
  | tup {a : Addr} {vs : List V} {ks : List NestedKey} : TupAt K B a vs → NkBs K B vs ks → NkB K B (.ref a) (.tup ks)
inductive NkBs (K : PySem.W.Frag) (B : Kn) : List V → List NestedKey → Prop
  | nil : NkBs K B [] []
  | cons {v : V} {vs : List V} {k : NestedKey} {ks : List NestedKey} : NkB K B v k → NkBs K B vs ks → NkBs K B (v :: vs) (k :: ks)
end
section
variable [Wld]
mutual
inductive Is (K : PySem.W.Frag) (B : Kn) : V → D → Prop
  | non : Is K B .non .non
  | bl (b : Bool) : Is K B (.bl b) (.bl b)
  | int (i : Int) : Is K B (.int i) (.int i)
  | str (s : Str) : Is K B (.str s) (.str s)
  | lst {a : Addr} {vs : List V} {ds : List D} : B a = some (.fz (.lst vs)) → IsL K B vs ds → Is K B (.ref a) (.lst ds)
  | tup {a : Addr} {vs : List V} {ds : List D} : TupAt K B a vs → IsL K B vs ds → Is K B (.ref a) (.tup ds)
  | dK {a : Addr} {vs : List (Key × V)} {ds : List (Key × D)} : B a = some (.fz (.dK vs)) → IsK K B vs ds → Is K B (.ref a) (.dK ds)
  | dT {a : Addr} {vs : List (List Key × V)} {ds : List (List Key × D)} : B a = some (.fz (.dT vs)) → IsT K B vs ds → Is K B (.ref a) (.dT ds)
  | dN {a : Addr} {xs : NEs} {ds : List (NestedKey × D)} : B a = some (.fz (nHO Wld.w a xs)) → IsN K B xs ds → Is K B (.ref a) (.dN ds)
  | ins {a C dx : Addr} {vs : List (Str × V)} {ds : List (Str × D)} : B a = some (.fz (.ins C dx vs)) → IsF K B vs ds → Is K B (.ref a) (.ins C ds)
  | st {a : Addr} : B a = some .st → Is K B (.ref a) .st
inductive IsL (K : PySem.W.Frag) (B : Kn) : List V → List D → Prop
  | nil : IsL K B [] []
  | cons {v : V} {vs : List V} {d : D} {ds : List D} : Is K B v d → IsL K B vs ds → IsL K B (v :: vs) (d :: ds)
inductive IsK (K : PySem.W.Frag) (B : Kn) : List (Key × V) → List (Key × D) → Prop
  | nil : IsK K B [] []
  | cons {k : Key} {v : V} {vs : List (Key × V)} {d : D} {ds : List (Key × D)} : Is K B v d → IsK K B vs ds → IsK K B ((k, v) :: vs) ((k, d) :: ds)
inductive IsT (K : PySem.W.Frag) (B : Kn) : List (List Key × V) → List (List Key × D) → Prop
  | nil : IsT K B [] []
  | cons {k : List Key} {v : V} {vs : List (List Key × V)} {d : D} {ds : List (List Key × D)} : Is K B v d → IsT K B vs ds → IsT K B ((k, v) :: vs) ((k, d) :: ds)
inductive IsN (K : PySem.W.Frag) (B : Kn) : NEs → List (NestedKey × D) → Prop
  | nil : IsN K B [] []
  | cons {k : NestedKey} {p : Addr} {v : V} {vs : NEs} {d : D} {ds : List (NestedKey × D)} : NkB K B (.ref p) k → k.depth ≤ 8 → Is K B v d → IsN K B vs ds → IsN K B ((k, p, v) :: vs) ((k, d) :: ds)
inductive IsF (K : PySem.W.Frag) (B : Kn) : List (Str × V) → List (Str × D) → Prop
  | nil : IsF K B [] []
  | cons {k : Str} {v : V} {vs : List (Str × V)} {d : D} {ds : List (Str × D)} : Is K B v d → IsF K B vs ds → IsF K B ((k, v) :: vs) ((k, d) :: ds)
end
/-- the frozen grows -/
def Gw (B B' : Kn) : Prop := ∀ a f, B a = some f → B' a = some f
theorem TupAt.mono {K : PySem.W.Frag} {B B' : Kn} (g : Gw B B') {a : Addr} {xs : List V} (h : TupAt K B a xs) : TupAt K B' a xs := h.imp (g _ _) id
mutual
theorem NkB.mono {K : PySem.W.Frag} {B B' : Kn} (g : Gw B B') {v : V} {k : NestedKey} (h : NkB K B v k) : NkB K B' v k := by
  cases h with
  | non => exact .non
  | int i => exact .int i
  | str s => exact .str s
  | tup e r => exact .tup (e.mono g) (NkBs.mono g r)
theorem NkBs.mono {K : PySem.W.Frag} {B B' : Kn} (g : Gw B B') {vs : List V} {ks : List NestedKey} (h : NkBs K B vs ks) : NkBs K B' vs ks := by
  cases h with
  | nil => exact .nil
  | cons x r => exact .cons (NkB.mono g x) (NkBs.mono g r)
end
mutual
theorem Is.mono {K : PySem.W.Frag} {B B' : Kn} (g : Gw B B') {v : V} {d : D} (h : Is K B v d) : Is K B' v d := by
  cases h with
  | non => exact .non
  | bl b => exact .bl b
  | int i => exact .int i
  | str s => exact .str s
  | lst e r => exact .lst (g _ _ e) (IsL.mono g r)
  | tup e r => exact .tup (e.mono g) (IsL.mono g r)
  | dK e r => exact .dK (g _ _ e) (IsK.mono g r)
  | dT e r => exact .dT (g _ _ e) (IsT.mono g r)
  | dN e r => exact .dN (g _ _ e) (IsN.mono g r)
  | ins e r => exact .ins (g _ _ e) (IsF.mono g r)
  | st e => exact .st (g _ _ e)
theorem IsL.mono {K : PySem.W.Frag} {B B' : Kn} (g : Gw B B') {vs : List V} {ds : List D} (h : IsL K B vs ds) : IsL K B' vs ds := by
  cases h with
  | nil => exact .nil
  | cons x r => exact .cons (Is.mono g x) (IsL.mono g r)
theorem IsK.mono {K : PySem.W.Frag} {B B' : Kn} (g : Gw B B') {vs : List (Key × V)} {ds : List (Key × D)} (h : IsK K B vs ds) : IsK K B' vs ds := by
  cases h with
  | nil => exact .nil
  | cons x r => exact .cons (Is.mono g x) (IsK.mono g r)
theorem IsT.mono {K : PySem.W.Frag} {B B' : Kn} (g : Gw B B') {vs : List (List Key × V)} {ds : List (List Key × D)} (h : IsT K B vs ds) : IsT K B' vs ds := by
  cases h with
  | nil => exact .nil
  | cons x r => exact .cons (Is.mono g x) (IsT.mono g r)
theorem IsN.mono {K : PySem.W.Frag} {B B' : Kn} (g : Gw B B') {vs : NEs} {ds : List (NestedKey × D)} (h : IsN K B vs ds) : IsN K B' vs ds := by
  cases h with
  | nil => exact .nil
  | cons k l x r => exact .cons (k.mono g) l (Is.mono g x) (IsN.mono g r)
theorem IsF.mono {K : PySem.W.Frag} {B B' : Kn} (g : Gw B B') {vs : List (Str × V)} {ds : List (Str × D)} (h : IsF K B vs ds) : IsF K B' vs ds := by
  cases h with
  | nil => exact .nil
  | cons x r => exact .cons (Is.mono g x) (IsF.mono g r)
end
section
variable {K : PySem.W.Frag} {B : Kn}
theorem IsL.length : ∀ {vs : List V} {ds : List D}, IsL K B vs ds → vs.length = ds.length
  | _, _, .nil => rfl
  | _, _, .cons _ r => congrArg (· + 1) (IsL.length r)
theorem IsL.get : ∀ {vs : List V} {ds : List D} {i : Nat} {d : D}, IsL K B vs ds → ds[i]? = some d → ∃ v, vs[i]? = some v ∧ Is K B v d
  | _, _, 0, _, .cons x _, e => ⟨_, rfl, by injection e with e; exact e ▸ x⟩
  | _, _, i + 1, _, .cons _ r, e => IsL.get (i := i) r e
theorem IsL.get' : ∀ {vs : List V} {ds : List D} {i : Nat} {v : V}, IsL K B vs ds → vs[i]? = some v → ∃ d, ds[i]? = some d ∧ Is K B v d
  | _, _, 0, _, .cons x _, e => ⟨_, rfl, by injection e with e; exact e ▸ x⟩
  | _, _, i + 1, _, .cons _ r, e => IsL.get' (i := i) r e
theorem IsL.append : ∀ {vs ws : List V} {ds es : List D}, IsL K B vs ds → IsL K B ws es → IsL K B (vs ++ ws) (ds ++ es)
  | _, _, _, _, .nil, h => h
  | _, _, _, _, .cons x r, h => .cons x (IsL.append r h)
theorem IsL.one {v : V} {d : D} (h : Is K B v d) : IsL K B [v] [d] := .cons h .nil
theorem IsL.snoc {vs : List V} {ds : List D} {v : V} {d : D} (h : IsL K B vs ds) (x : Is K B v d) : IsL K B (vs ++ [v]) (ds ++ [d]) := h.append (.one x)
theorem IsL.take : ∀ (n : Nat) {vs : List V} {ds : List D}, IsL K B vs ds → IsL K B (vs.take n) (ds.take n)
  | 0, _, _, _ => .nil
  | _ + 1, _, _, .nil => .nil
  | n + 1, _, _, .cons x r => .cons x (IsL.take n r)
theorem IsL.drop : ∀ (n : Nat) {vs : List V} {ds : List D}, IsL K B vs ds → IsL K B (vs.drop n) (ds.drop n)
  | 0, _, _, h => h
  | _ + 1, _, _, .nil => .nil
  | n + 1, _, _, .cons _ r => IsL.drop n r
theorem IsL.set : ∀ (n : Nat) {vs : List V} {ds : List D} {v : V} {d : D}, IsL K B vs ds → Is K B v d → IsL K B (vs.set n v) (ds.set n d)
  | _, _, _, _, _, .nil, _ => .nil
  | 0, _, _, _, _, .cons _ r, h => .cons h r
  | n + 1, _, _, _, _, .cons x r, h => .cons x (IsL.set n r h)
theorem IsL.reverse {vs : List V} {ds : List D} (h : IsL K B vs ds) : IsL K B vs.reverse ds.reverse := by
  induction vs generalizing ds with
  | nil => cases h; exact .nil
  | cons v vs ih =>
    cases h with
    | cons x r => rw [List.reverse_cons, List.reverse_cons]; exact (ih r).append (.one x)
theorem IsL.rep {vs : List V} {ds : List D} (h : IsL K B vs ds) : ∀ k : Nat, IsL K B (List.replicate k vs).flatten (List.replicate k ds).flatten
  | 0 => .nil
  | k + 1 => by rw [List.replicate_succ, List.replicate_succ, List.flatten_cons, List.flatten_cons]; exact h.append (IsL.rep h k)
theorem IsL.dropLast {vs : List V} {ds : List D} (h : IsL K B vs ds) : IsL K B vs.dropLast ds.dropLast := by
  rw [List.dropLast_eq_take, List.dropLast_eq_take, h.length]; exact h.take _
theorem IsL.strs : ∀ {ss : List Str} {vs : List V}, IsL K B vs (ss.map .str) → vs = ss.map .str
  | [], _, .nil => rfl
  | _ :: _, _, .cons (.str _) r => congrArg _ (IsL.strs r)
theorem IsL.ofStrs : ∀ (ss : List Str), IsL K B (ss.map .str) (ss.map .str)
  | [] => .nil
  | _ :: r => .cons (.str _) (IsL.ofStrs r)
theorem IsL.ints : ∀ {ss : List Int} {vs : List V}, IsL K B vs (ss.map .int) → vs = ss.map .int
  | [], _, .nil => rfl
  | _ :: _, _, .cons (.int _) r => congrArg _ (IsL.ints r)
theorem IsL.ofInts : ∀ (ss : List Int), IsL K B (ss.map .int) (ss.map .int)
  | [] => .nil
  | _ :: r => .cons (.int _) (IsL.ofInts r)
theorem IsK.length : ∀ {vs : List (Key × V)} {ds : List (Key × D)}, IsK K B vs ds → vs.length = ds.length
  | _, _, .nil => rfl
  | _, _, .cons _ r => congrArg (· + 1) (IsK.length r)
theorem IsK.keys : ∀ {vs : List (Key × V)} {ds : List (Key × D)}, IsK K B vs ds → vs.map (·.1) = ds.map (·.1)
  | _, _, .nil => rfl
  | _, _, .cons _ r => congrArg (_ :: ·) (IsK.keys r)
theorem IsF.lookup : ∀ {vs : List (Str × V)} {ds : List (Str × D)} {f : Str} {d : D}, IsF K B vs ds → ds.lookup f = some d → ∃ v, vs.lookup f = some v ∧ Is K B v d
  | _, _, f, d, .cons (k := k) x r, e => by
    rw [List.lookup_cons] at e
    rw [List.lookup_cons]
    by_cases h : (f == k) = true
    · rw [h] at e ⊢; injection e with e; exact ⟨_, rfl, e ▸ x⟩
    · rw [Bool.not_eq_true] at h
      rw [h] at e ⊢; exact IsF.lookup r e
theorem IsF.lookup_none : ∀ {vs : List (Str × V)} {ds : List (Str × D)} {f : Str}, IsF K B vs ds → ds.lookup f = none → vs.lookup f = none
  | _, _, f, .nil, e => rfl
  | _, _, f, .cons (k := k) x r, e => by
    rw [List.lookup_cons] at e
    rw [List.lookup_cons]
    by_cases h : (f == k) = true
    · rw [h] at e; cases e
    · rw [Bool.not_eq_true] at h
      rw [h] at e ⊢; exact IsF.lookup_none r e
theorem IsF.length : ∀ {vs : List (Str × V)} {ds : List (Str × D)}, IsF K B vs ds → vs.length = ds.length
  | _, _, .nil => rfl
  | _, _, .cons _ r => congrArg (· + 1) (IsF.length r)
/-- the attribute f set -/
def putFD (f : Str) (d : D) : List (Str × D) → List (Str × D)
  | [] => [(f, d)]
  | (g, x) :: r => if g = f then (g, d) :: r else (g, x) :: putFD f d r
theorem IsF.put : ∀ {vs : List (Str × V)} {ds : List (Str × D)} (f : Str) {v : V} {d : D}, IsF K B vs ds → Is K B v d → IsF K B (putF f v vs) (putFD f d ds)
  | _, _, f, v, d, .nil, h => .cons h .nil
  | _, _, f, v, d, .cons (k := k) x r, h => by
    unfold putF putFD
    by_cases e : k = f
    · rw [if_pos e, if_pos e]; exact .cons h r
    · rw [if_neg e, if_neg e]; exact .cons x (IsF.put f r h)
/-! ### dicts -/
def valD {κ : Type} [DecidableEq κ] (kvs : List (κ × D)) (k : κ) : Option D := (kvs.find? fun kv => decide (kv.1 = k)).map (·.2)
def putD {κ : Type} [DecidableEq κ] (kvs : List (κ × D)) (k : κ) (v : D) : List (κ × D) :=
  if (kvs.any fun kv => decide (kv.1 = k)) = true then kvs.map (fun kv => if kv.1 = k then (kv.1, v) else kv) else kvs ++ [(k, v)]
def RelD (K : PySem.W.Frag) (B : Kn) : Option V → Option D → Prop
  | some v, some d => Is K B v d
  | none, none => True
  | _, _ => False
theorem RelD.isSome : ∀ {o : Option V} {d : Option D}, RelD K B o d → o.isSome = d.isSome
  | some _, some _, _ => rfl
  | none, none, _ => rfl
theorem valD_nil {κ : Type} [DecidableEq κ] {k : κ} : valD ([] : List (κ × D)) k = none := rfl
theorem valD_cons {κ : Type} [DecidableEq κ] {p : κ × D} {r : List (κ × D)} {k : κ} : valD (p :: r) k = if p.1 = k then some p.2 else valD r k := by
  unfold valD
  rw [List.find?_cons]
  by_cases e : p.1 = k
  · rw [decide_eq_true e, if_pos e]; rfl
  · rw [decide_eq_false e, if_neg e]
theorem valV_cons {κ : Type} [DecidableEq κ] {p : κ × V} {r : List (κ × V)} {k : κ} : valV (p :: r) k = if p.1 = k then some p.2 else valV r k := by
  by_cases e : p.1 = k
  · rw [valV_pos e, if_pos e]
  · rw [valV_neg e, if_neg e]
theorem IsK.val : ∀ {vs : List (Key × V)} {ds : List (Key × D)}, IsK K B vs ds → ∀ k, RelD K B (valV vs k) (valD ds k)
  | _, _, .nil, _ => trivial
  | _, _, .cons (k := k0) x r, k => by
    rw [valV_cons, valD_cons]
    by_cases e : k0 = k
    · rw [if_pos e, if_pos e]; exact x
    · rw [if_neg e, if_neg e]; exact IsK.val r k
theorem IsT.val : ∀ {vs : List (List Key × V)} {ds : List (List Key × D)}, IsT K B vs ds → ∀ k, RelD K B (valV vs k) (valD ds k)
  | _, _, .nil, _ => trivial
  | _, _, .cons (k := k0) x r, k => by
    rw [valV_cons, valD_cons]
    by_cases e : k0 = k
    · rw [if_pos e, if_pos e]; exact x
    · rw [if_neg e, if_neg e]; exact IsT.val r k
theorem IsT.length : ∀ {vs : List (List Key × V)} {ds : List (List Key × D)}, IsT K B vs ds → vs.length = ds.length
  | _, _, .nil => rfl
  | _, _, .cons _ r => congrArg (· + 1) (IsT.length r)
theorem IsK.any : ∀ {vs : List (Key × V)} {ds : List (Key × D)}, IsK K B vs ds → ∀ k, (vs.any fun kv => decide (kv.1 = k)) = ds.any fun kv => decide (kv.1 = k)
  | _, _, .nil, _ => rfl
  | _, _, .cons x r, k => by rw [List.any_cons, List.any_cons, IsK.any r k]
theorem IsT.any : ∀ {vs : List (List Key × V)} {ds : List (List Key × D)}, IsT K B vs ds → ∀ k, (vs.any fun kv => decide (kv.1 = k)) = ds.any fun kv => decide (kv.1 = k)
  | _, _, .nil, _ => rfl
  | _, _, .cons x r, k => by rw [List.any_cons, List.any_cons, IsT.any r k]
theorem IsK.append : ∀ {vs ws : List (Key × V)} {ds es : List (Key × D)}, IsK K B vs ds → IsK K B ws es → IsK K B (vs ++ ws) (ds ++ es)
  | _, _, _, _, .nil, h => h
  | _, _, _, _, .cons x r, h => .cons x (IsK.append r h)
theorem IsT.append : ∀ {vs ws : List (List Key × V)} {ds es : List (List Key × D)}, IsT K B vs ds → IsT K B ws es → IsT K B (vs ++ ws) (ds ++ es)
  | _, _, _, _, .nil, h => h
  | _, _, _, _, .cons x r, h => .cons x (IsT.append r h)
theorem IsK.repl : ∀ {vs : List (Key × V)} {ds : List (Key × D)}, IsK K B vs ds → ∀ (k : Key) {v : V} {d : D}, Is K B v d → IsK K B (vs.map fun kv => if kv.1 = k then (kv.1, v) else kv) (ds.map fun kv => if kv.1 = k then (kv.1, d) else kv)
  | _, _, .nil, _, _, _, _ => .nil
  | _, _, .cons (k := k0) x r, k, v, d, h => by
    rw [List.map_cons, List.map_cons]
    by_cases e : k0 = k
    · rw [if_pos e, if_pos e]; exact .cons h (IsK.repl r k h)
    · rw [if_neg e, if_neg e]; exact .cons x (IsK.repl r k h)
theorem IsT.repl : ∀ {vs : List (List Key × V)} {ds : List (List Key × D)}, IsT K B vs ds → ∀ (k : List Key) {v : V} {d : D}, Is K B v d → IsT K B (vs.map fun kv => if kv.1 = k then (kv.1, v) else kv) (ds.map fun kv => if kv.1 = k then (kv.1, d) else kv)
  | _, _, .nil, _, _, _, _ => .nil
  | _, _, .cons (k := k0) x r, k, v, d, h => by
    rw [List.map_cons, List.map_cons]
    by_cases e : k0 = k
    · rw [if_pos e, if_pos e]; exact .cons h (IsT.repl r k h)
    · rw [if_neg e, if_neg e]; exact .cons x (IsT.repl r k h)
theorem IsK.put {vs : List (Key × V)} {ds : List (Key × D)} (r : IsK K B vs ds) (k : Key) {v : V} {d : D} (h : Is K B v d) : IsK K B (putK vs k v) (putD ds k d) := by
  unfold putK putD
  rw [r.any k]
  by_cases e : (ds.any fun kv => decide (kv.1 = k)) = true
  · rw [if_pos e, if_pos e]; exact r.repl k h
  · rw [if_neg e, if_neg e]; exact r.append (.cons h .nil)
theorem IsT.put {vs : List (List Key × V)} {ds : List (List Key × D)} (r : IsT K B vs ds) (k : List Key) {v : V} {d : D} (h : Is K B v d) : IsT K B (putK vs k v) (putD ds k d) := by
  unfold putK putD
  rw [r.any k]
  by_cases e : (ds.any fun kv => decide (kv.1 = k)) = true
  · rw [if_pos e, if_pos e]; exact r.repl k h
  · rw [if_neg e, if_neg e]; exact r.append (.cons h .nil)
theorem IsN.length : ∀ {vs : NEs} {ds : List (NestedKey × D)}, IsN K B vs ds → vs.length = ds.length
  | _, _, .nil => rfl
  | _, _, .cons _ _ _ r => congrArg (· + 1) (IsN.length r)
theorem valN_cons {p : NestedKey × Addr × V} {r : NEs} {k : NestedKey} : valN (p :: r) k = if p.1 = k then some p.2.2 else valN r k := by
  unfold valN
  rw [List.find?_cons]
  by_cases e : p.1 = k
  · rw [decide_eq_true e, if_pos e]; rfl
  · rw [decide_eq_false e, if_neg e]
theorem IsN.val : ∀ {vs : NEs} {ds : List (NestedKey × D)}, IsN K B vs ds → ∀ k, RelD K B (valN vs k) (valD ds k)
  | _, _, .nil, _ => trivial
  | _, _, .cons (k := k0) _ _ x r, k => by
    rw [valN_cons, valD_cons]
    by_cases e : k0 = k
    · rw [if_pos e, if_pos e]; exact x
    · rw [if_neg e, if_neg e]; exact IsN.val r k
theorem IsN.any : ∀ {vs : NEs} {ds : List (NestedKey × D)}, IsN K B vs ds → ∀ k, (vs.any fun kv => decide (kv.1 = k)) = ds.any fun kv => decide (kv.1 = k)
  | _, _, .nil, _ => rfl
  | _, _, .cons _ _ x r, k => by rw [List.any_cons, List.any_cons, IsN.any r k]
theorem IsN.append : ∀ {vs ws : NEs} {ds es : List (NestedKey × D)}, IsN K B vs ds → IsN K B ws es → IsN K B (vs ++ ws) (ds ++ es)
  | _, _, _, _, .nil, h => h
  | _, _, _, _, .cons k l x r, h => .cons k l x (IsN.append r h)
theorem IsN.repl : ∀ {vs : NEs} {ds : List (NestedKey × D)}, IsN K B vs ds → ∀ (k : NestedKey) {v : V} {d : D}, Is K B v d → IsN K B (vs.map fun x => if x.1 = k then (x.1, x.2.1, v) else x) (ds.map fun kv => if kv.1 = k then (kv.1, d) else kv)
  | _, _, .nil, _, _, _, _ => .nil
  | _, _, .cons (k := k0) kk l x r, k, v, d, h => by
    rw [List.map_cons, List.map_cons]
    by_cases e : k0 = k
    · rw [if_pos e, if_pos e]; exact .cons kk l h (IsN.repl r k h)
    · rw [if_neg e, if_neg e]; exact .cons kk l x (IsN.repl r k h)
theorem IsN.put {vs : NEs} {ds : List (NestedKey × D)} (r : IsN K B vs ds) {k : NestedKey} {p : Addr} (hk : NkB K B (.ref p) k) (hl : k.depth ≤ 8) {v : V} {d : D} (h : Is K B v d) : IsN K B (putN vs k p v) (putD ds k d) := by
  unfold putN putD
  rw [r.any k]
  by_cases e : (ds.any fun kv => decide (kv.1 = k)) = true
  · rw [if_pos e, if_pos e]; exact r.repl k h
  · rw [if_neg e, if_neg e]; exact r.append (.cons hk hl h .nil)
mutual
theorem NkB.is {v : V} {k : NestedKey} (h : NkB K B v k) : Is K B v (nkD k) := by
  cases h with
  | non => exact .non
  | int i => exact .int i
  | str s => exact .str s
  | tup e r => exact .tup e (NkBs.is r)
theorem NkBs.is {vs : List V} {ks : List NestedKey} (h : NkBs K B vs ks) : IsL K B vs (nkD.nkDs ks) := by
  cases h with
  | nil => exact .nil
  | cons x r => exact .cons (NkB.is x) (NkBs.is r)
end
mutual
theorem Is.nk : ∀ {k : NestedKey} {v : V}, Is K B v (nkD k) → NkB K B v k
  | .none, _, h => by cases h; exact .non
  | .num i, _, h => by cases h; exact .int i
  | .text s, _, h => by cases h; exact .str s
  | .tup ks, _, h => by
    cases h with
    | tup e r => exact .tup e (IsL.nks r)
theorem IsL.nks : ∀ {ks : List NestedKey} {vs : List V}, IsL K B vs (nkD.nkDs ks) → NkBs K B vs ks
  | [], _, h => by cases h; exact .nil
  | k :: ks, _, h => by
    cases h with
    | cons x r => exact .cons (Is.nk x) (IsL.nks r)
end
theorem IsN.keysL : ∀ {vs : NEs} {ds : List (NestedKey × D)}, IsN K B vs ds → IsL K B (vs.map fun x => V.ref x.2.1) (ds.map fun kv => nkD kv.1)
  | _, _, .nil => .nil
  | _, _, .cons k _ _ r => .cons k.is (IsN.keysL r)
end
end
/-! ### data compared -/
mutual
def D.py : D → PyData
  | .non => .none | .bl b => .bool b | .int i => .int i | .str s => .str s
  | .lst xs => .list (pyL xs) | .tup xs => .tuple (pyL xs)
  | .dK _ | .dT _ | .dN _ | .ins _ _ | .st => .dict []
def pyL : List D → List PyData
  | [] => []
  | d :: r => d.py :: pyL r
end
/-- no dict, instance or state within -/
def D.plain (d : D) : Bool := d.py.plain
def D.depth (d : D) : Nat := d.py.depth
def D.eqv (a b : D) : Bool := PyData.eqv a.py b.py
theorem plain_lst {xs : List D} : (D.lst xs).plain = true ↔ ∀ x ∈ xs, x.plain = true := by
  show PyData.plainAll (pyL xs) = true ↔ _
  induction xs with
  | nil => simp [pyL, PyData.plainAll]
  | cons x r ih => simp [pyL, PyData.plainAll, ih, D.plain]
theorem plain_tup {xs : List D} : (D.tup xs).plain = true ↔ ∀ x ∈ xs, x.plain = true := plain_lst
end DL
set_option Elab.async false
set_option linter.all false
set_option maxRecDepth 100000
set_option maxHeartbeats 2000000
/-! DL, part b: the slots, the judgements. -/
namespace DL
open PySem L2
section
variable [Wld] {K : PySem.W.Frag} {B B' B1 B2 : Kn} {H H' H1 H2 : Hp} {m n : Nat} {a : Addr} {v : V} {d : D}
/-! ### frozen things read -/
theorem is_lst {ds : List D} (h : Is K B v (.lst ds)) (le : Le m B H) : ∃ a vs, v = .ref a ∧ H a = some (.lst vs) ∧ IsL K B vs ds ∧ B a = some (.fz (.lst vs)) := by
  cases h with
  | lst e r =>
    rcases le _ _ e with q | ⟨q, _⟩
    · exact ⟨_, _, rfl, q, r, e⟩
    · cases q
theorem TupAt.sq {vs : List V} (h : TupAt K B a vs) (le : Le m B H) : SqT K H a vs := by
  rcases h with e | e
  · rcases le _ _ e with q | ⟨q, _⟩
    · exact .inl (.inl q)
    · cases q
  · exact .inr e
theorem is_tup {ds : List D} (h : Is K B v (.tup ds)) (le : Le m B H) : ∃ a vs, v = .ref a ∧ SqT K H a vs ∧ IsL K B vs ds ∧ TupAt K B a vs := by
  cases h with
  | tup e r => exact ⟨_, _, rfl, e.sq le, r, e⟩
theorem is_dK {ds : List (Key × D)} (h : Is K B v (.dK ds)) (le : Le m B H) : ∃ a vs, v = .ref a ∧ Rd H a (.dK vs) ∧ IsK K B vs ds ∧ B a = some (.fz (.dK vs)) := by
  cases h with
  | dK e r =>
    rcases le _ _ e with q | ⟨_, q⟩
    · exact ⟨_, _, rfl, .inl q, r, e⟩
    · exact ⟨_, _, rfl, .inr q, r, e⟩
theorem is_dT {ds : List (List Key × D)} (h : Is K B v (.dT ds)) (le : Le m B H) : ∃ a vs, v = .ref a ∧ Rd H a (.dT vs) ∧ IsT K B vs ds ∧ B a = some (.fz (.dT vs)) := by
  cases h with
  | dT e r =>
    rcases le _ _ e with q | ⟨_, q⟩
    · exact ⟨_, _, rfl, .inl q, r, e⟩
    · exact ⟨_, _, rfl, .inr q, r, e⟩
mutual
theorem NkB.at_ (le : Le m B H) {v : V} {k : NestedKey} (h : NkB K B v k) : NkAt K H v k := by
  cases h with
  | non => exact .non
  | int i => exact .int i
  | str s => exact .str s
  | tup e r => exact .tup (e.sq le) (NkBs.at_ le r)
theorem NkBs.at_ (le : Le m B H) {vs : List V} {ks : List NestedKey} (h : NkBs K B vs ks) : NkAll K H vs ks := by
  cases h with
  | nil => exact .nil
  | cons x r => exact .cons (NkB.at_ le x) (NkBs.at_ le r)
end
theorem IsN.keys (le : Le m B H) : ∀ {xs : NEs} {ds : List (NestedKey × D)}, IsN K B xs ds → ∀ x ∈ xs, NkAt K H (.ref x.2.1) x.1 ∧ x.1.depth ≤ 8
  | _, _, .cons k l _ r, x, h => by
    rcases List.mem_cons.mp h with e | h
    · subst e; exact ⟨k.at_ le, l⟩
    · exact IsN.keys le r x h
theorem is_dN {ds : List (NestedKey × D)} (h : Is K B v (.dN ds)) (le : Le m B H) : ∃ a xs, v = .ref a ∧ NdAt K Wld.w H a xs ∧ IsN K B xs ds ∧ B a = some (.fz (nHO Wld.w a xs)) := by
  cases h with
  | dN e r =>
    rcases le _ _ e with q | ⟨_, q⟩
    · exact ⟨_, _, rfl, ⟨.inl q, r.keys le⟩, r, e⟩
    · exact ⟨_, _, rfl, ⟨.inr q, r.keys le⟩, r, e⟩
theorem is_ins {C : Addr} {ds : List (Str × D)} (h : Is K B v (.ins C ds)) (le : Le m B H) : ∃ a dx vs, v = .ref a ∧ H a = some (.ins C dx vs) ∧ IsF K B vs ds := by
  cases h with
  | ins e r =>
    rcases le _ _ e with q | ⟨q, _⟩
    · exact ⟨_, _, _, rfl, q, r⟩
    · cases q
theorem is_st (h : Is K B v .st) (le : Le m B H) : ∃ a, v = .ref a ∧ B a = some .st ∧ ∃ x y z : Int, H a = some (.lst [.int x, .int y, .int z]) ∧ 0 ≤ z ∧ z + m ≤ most := by
  cases h with
  | st e => exact ⟨_, rfl, e, le _ _ e⟩
/-! ### what is owned: an object that nothing frozen knows, its parts frozen -/
def Own (K : PySem.W.Frag) (B : Kn) (H : Hp) (a : Addr) : D → Prop
  | .lst ds => B a = none ∧ ∃ vs, H a = some (.lst vs) ∧ IsL K B vs ds
  | .dK ds => B a = none ∧ ∃ vs, H a = some (.dK vs) ∧ IsK K B vs ds
  | .dT ds => B a = none ∧ ∃ vs, H a = some (.dT vs) ∧ IsT K B vs ds
  | .dN ds => B a = none ∧ ∃ xs, H a = some (nHO Wld.w a xs) ∧ IsN K B xs ds
  | .ins C ds => B a = none ∧ ∃ dx vs, H a = some (.ins C dx vs) ∧ IsF K B vs ds
  | _ => False
theorem Own.none : ∀ {d : D}, Own K B H a d → B a = none
  | .lst _, h => h.1 | .dK _, h => h.1 | .dT _, h => h.1 | .dN _, h => h.1 | .ins _ _, h => h.1
theorem Own.at_ : ∀ {d : D}, Own K B H a d → ∃ o, H a = some o
  | .lst _, ⟨_, _, e, _⟩ => ⟨_, e⟩ | .dK _, ⟨_, _, e, _⟩ => ⟨_, e⟩ | .dT _, ⟨_, _, e, _⟩ => ⟨_, e⟩ | .dN _, ⟨_, _, e, _⟩ => ⟨_, e⟩ | .ins _ _, ⟨_, _, _, e, _⟩ => ⟨_, e⟩
theorem Own.keep (g : Gw B B') (hb : B' a = .none) (hh : ∀ o, H a = some o → H' a = some o) : ∀ {d : D}, Own K B H a d → Own K B' H' a d
  | .lst _, ⟨_, _, e, r⟩ => ⟨hb, _, hh _ e, r.mono g⟩ | .dK _, ⟨_, _, e, r⟩ => ⟨hb, _, hh _ e, r.mono g⟩
  | .dT _, ⟨_, _, e, r⟩ => ⟨hb, _, hh _ e, r.mono g⟩ | .dN _, ⟨_, _, e, r⟩ => ⟨hb, _, hh _ e, r.mono g⟩ | .ins _ _, ⟨_, _, _, e, r⟩ => ⟨hb, _, _, hh _ e, r.mono g⟩
theorem Own.go (g : Go B H B' H') (h : Own K B H a d) : Own K B' H' a d := by
  obtain ⟨o, e⟩ := h.at_
  exact h.keep g.b (g.h a o e h.none).2 fun o e => (g.h a o e h.none).1
/-- the object at a is frozen -/
def frz (B : Kn) (a : Addr) (o : HO) : Kn := fun b => if b = a then some (.fz o) else B b
theorem frz_same {o : HO} : frz B a o a = some (.fz o) := if_pos rfl
theorem frz_ne {o : HO} {b : Addr} (h : b ≠ a) : frz B a o b = B b := if_neg h
theorem frz_gw {o : HO} (h : B a = none) : Gw B (frz B a o) := fun b f e => by
  by_cases q : b = a
  · rw [q, h] at e; cases e
  · rw [frz_ne q]; exact e
theorem frz_le {o : HO} (le : Le m B H) (e : H a = some o) : Le m (frz B a o) H := fun b f k => by
  by_cases q : b = a
  · rw [q, frz_same] at k; cases k; exact .inl (q ▸ e)
  · rw [frz_ne q] at k; exact le b f k
theorem frz_go {o : HO} (hb : B a = none) (h0 : H1 a = none) (g : Go B1 H1 B H) : Go B1 H1 (frz B a o) H := by
  refine ⟨fun b f e => frz_gw hb b f (g.b b f e), fun b o' e k => ⟨(g.h b o' e k).1, ?_⟩, g.z⟩
  have q : b ≠ a := fun q => by rw [q, h0] at e; cases e
  rw [frz_ne q]; exact (g.h b o' e k).2
/-- an owned thing is frozen -/
theorem Own.froze (le : Le m B H) (h : Own K B H a d) : ∃ o, H a = some o ∧ Le m (frz B a o) H ∧ Gw B (frz B a o) ∧ Is K (frz B a o) (.ref a) d := by
  cases d with
  | lst ds => obtain ⟨hb, vs, e, r⟩ := h; exact ⟨_, e, frz_le le e, frz_gw hb, .lst frz_same (r.mono (frz_gw hb))⟩
  | dK ds => obtain ⟨hb, vs, e, r⟩ := h; exact ⟨_, e, frz_le le e, frz_gw hb, .dK frz_same (r.mono (frz_gw hb))⟩
  | dT ds => obtain ⟨hb, vs, e, r⟩ := h; exact ⟨_, e, frz_le le e, frz_gw hb, .dT frz_same (r.mono (frz_gw hb))⟩
  | dN ds => obtain ⟨hb, vs, e, r⟩ := h; exact ⟨_, e, frz_le le e, frz_gw hb, .dN frz_same (r.mono (frz_gw hb))⟩
  | ins C ds => obtain ⟨hb, dx, vs, e, r⟩ := h; exact ⟨_, e, frz_le le e, frz_gw hb, .ins frz_same (r.mono (frz_gw hb))⟩
  | _ => exact h.elim
/-- may be read -/
def Rv (K : PySem.W.Frag) (B : Kn) (H : Hp) (v : V) (d : D) : Prop := Is K B v d ∨ ∃ a, v = .ref a ∧ Own K B H a d
theorem Rv.go (g : Go B H B' H') (h : Rv K B H v d) : Rv K B' H' v d := by
  rcases h with h | ⟨a, e, h⟩
  · exact .inl (h.mono g.b)
  · exact .inr ⟨a, e, h.go g⟩
theorem rv_lst {ds : List D} (h : Rv K B H v (.lst ds)) (le : Le m B H) : ∃ a vs, v = .ref a ∧ H a = some (.lst vs) ∧ IsL K B vs ds := by
  rcases h with h | ⟨a, e, _, vs, q, r⟩
  · obtain ⟨a, vs, e, q, r, _⟩ := is_lst h le; exact ⟨a, vs, e, q, r⟩
  · exact ⟨a, vs, e, q, r⟩
theorem rv_tup {ds : List D} (h : Rv K B H v (.tup ds)) (le : Le m B H) : ∃ a vs, v = .ref a ∧ SqT K H a vs ∧ IsL K B vs ds ∧ TupAt K B a vs := by
  rcases h with h | ⟨a, _, h⟩
  · exact is_tup h le
  · exact h.elim
theorem rv_dK {ds : List (Key × D)} (h : Rv K B H v (.dK ds)) (le : Le m B H) : ∃ a vs, v = .ref a ∧ Rd H a (.dK vs) ∧ IsK K B vs ds := by
  rcases h with h | ⟨a, e, _, vs, q, r⟩
  · obtain ⟨a, vs, e, q, r, _⟩ := is_dK h le; exact ⟨a, vs, e, q, r⟩
  · exact ⟨a, vs, e, .inl q, r⟩
theorem rv_dT {ds : List (List Key × D)} (h : Rv K B H v (.dT ds)) (le : Le m B H) : ∃ a vs, v = .ref a ∧ Rd H a (.dT vs) ∧ IsT K B vs ds := by
  rcases h with h | ⟨a, e, _, vs, q, r⟩
  · obtain ⟨a, vs, e, q, r, _⟩ := is_dT h le; exact ⟨a, vs, e, q, r⟩
  · exact ⟨a, vs, e, .inl q, r⟩
theorem rv_dN {ds : List (NestedKey × D)} (h : Rv K B H v (.dN ds)) (le : Le m B H) : ∃ a xs, v = .ref a ∧ NdAt K Wld.w H a xs ∧ IsN K B xs ds := by
  rcases h with h | ⟨a, e, _, xs, q, r⟩
  · obtain ⟨a, xs, e, q, r, _⟩ := is_dN h le; exact ⟨a, xs, e, q, r⟩
  · exact ⟨a, xs, e, ⟨.inl q, r.keys le⟩, r⟩
theorem rv_ins {C : Addr} {ds : List (Str × D)} (h : Rv K B H v (.ins C ds)) (le : Le m B H) : ∃ a dx vs, v = .ref a ∧ H a = some (.ins C dx vs) ∧ IsF K B vs ds := by
  rcases h with h | ⟨a, e, _, dx, vs, q, r⟩
  · exact is_ins h le
  · exact ⟨a, dx, vs, e, q, r⟩
/-- what is no object -/
def D.scalar : D → Bool
  | .non | .bl _ | .int _ | .str _ => true
  | _ => false
def D.toV : D → V
  | .non => .non | .bl b => .bl b | .int i => .int i | .str s => .str s
  | _ => .non
theorem rv_scal (h : Rv K B H v d) (s : d.scalar = true) : v = d.toV := by
  rcases h with h | ⟨a, e, h⟩
  · cases h <;> first | rfl | cases s
  · cases d <;> first | exact h.elim | cases s
theorem is_scal (s : d.scalar = true) : Is K B d.toV d := by
  cases d <;> first | constructor | cases s
/-! ### the slots -/
inductive Sl where
  | no | val (d : D) | ow (d : D) (p : Addr → Prop := fun _ => True)
abbrev Gm := List Sl
structure Sg (K : PySem.W.Frag) (B : Kn) (H : Hp) (σ : L2.St) (Γ : Gm) : Prop where
  len : σ.length = Γ.length
  val : ∀ (i : Nat) (d : D), Γ[i]? = some (.val d) → ∃ v, σ[i]? = some (some v) ∧ Is K B v d
  mt : ∀ (i : Nat) (d : D) (p : Addr → Prop), Γ[i]? = some (.ow d p) → ∃ a, σ[i]? = some (some (.ref a)) ∧ Own K B H a d ∧ p a
  sep : ∀ (i j : Nat) (a : Addr) (d e : D) (p q : Addr → Prop), Γ[i]? = some (.ow d p) → Γ[j]? = some (.ow e q) → σ[i]? = some (some (.ref a)) → σ[j]? = some (some (.ref a)) → i = j
variable {σ : L2.St} {Γ : Gm}
theorem Sg.go (g : Go B H B' H') (s : Sg K B H σ Γ) : Sg K B' H' σ Γ :=
  ⟨s.len, fun i d e => (s.val i d e).imp fun _ q => ⟨q.1, q.2.mono g.b⟩, fun i d p e => (s.mt i d p e).imp fun _ q => ⟨q.1, q.2.1.go g, q.2.2⟩, s.sep⟩
theorem set_get {α : Type} {l : List α} {i j : Nat} {x y : α} (h : (l.set i x)[j]? = some y) : (i = j ∧ x = y ∧ i < l.length) ∨ (i ≠ j ∧ l[j]? = some y) := by
  rw [List.getElem?_set] at h
  by_cases q : i = j
  · rw [if_pos q] at h
    by_cases w : i < l.length
    · rw [if_pos w] at h; exact .inl ⟨q, Option.some.inj h, w⟩
    · rw [if_neg w] at h; cases h
  · rw [if_neg q] at h; exact .inr ⟨q, h⟩
theorem set_at {α : Type} {l : List α} {i : Nat} {x : α} (h : i < l.length) : (l.set i x)[i]? = some x := by
  rw [List.getElem?_set, if_pos rfl, if_pos h]
theorem set_off {α : Type} {l : List α} {i j : Nat} {x : α} (h : i ≠ j) : (l.set i x)[j]? = l[j]? := by
  rw [List.getElem?_set, if_neg h]
theorem Sg.setVal (s : Sg K B H σ Γ) (i : Nat) (h : Is K B v d) : Sg K B H (σ.set i (some v)) (Γ.set i (.val d)) := by
  refine ⟨by rw [List.length_set, List.length_set, s.len], fun j e q => ?_, fun j e p q => ?_, fun j k a e f pe pf q1 q2 q3 q4 => ?_⟩
  · rcases set_get q with ⟨rfl, w, l⟩ | ⟨w, q⟩
    · cases w; exact ⟨v, set_at (by rw [s.len]; exact l), h⟩
    · rw [set_off w]; exact s.val j e q
  · rcases set_get q with ⟨rfl, w, l⟩ | ⟨w, q⟩
    · cases w
    · rw [set_off w]; exact s.mt j e _ q
  · rcases set_get q1 with ⟨rfl, w, l⟩ | ⟨w1, q1⟩
    · cases w
    · rcases set_get q2 with ⟨rfl, w, l⟩ | ⟨w2, q2⟩
      · cases w
      · rw [set_off w1] at q3; rw [set_off w2] at q4; exact s.sep j k a e f _ _ q1 q2 q3 q4
theorem Sg.wipe1 (s : Sg K B H σ Γ) (i : Nat) : Sg K B H (σ.set i none) (Γ.set i .no) := by
  refine ⟨by rw [List.length_set, List.length_set, s.len], fun j e q => ?_, fun j e p q => ?_, fun j k a e f pe pf q1 q2 q3 q4 => ?_⟩
  · rcases set_get q with ⟨rfl, w, l⟩ | ⟨w, q⟩
    · cases w
    · rw [set_off w]; exact s.val j e q
  · rcases set_get q with ⟨rfl, w, l⟩ | ⟨w, q⟩
    · cases w
    · rw [set_off w]; exact s.mt j e _ q
  · rcases set_get q1 with ⟨rfl, w, l⟩ | ⟨w1, q1⟩
    · cases w
    · rcases set_get q2 with ⟨rfl, w, l⟩ | ⟨w2, q2⟩
      · cases w
      · rw [set_off w1] at q3; rw [set_off w2] at q4; exact s.sep j k a e f _ _ q1 q2 q3 q4
def wipeG (Γ : Gm) : List Nat → Gm
  | [] => Γ
  | v :: vs => (wipeG Γ vs).set v .no
theorem Sg.wipe (s : Sg K B H σ Γ) : ∀ vs : List Nat, Sg K B H (L2.wipe σ vs) (wipeG Γ vs)
  | [] => s
  | v :: vs => (Sg.wipe s vs).wipe1 v
/-- a new owned thing in a slot -/
theorem Sg.setMut {p : Addr → Prop} (s : Sg K B H σ Γ) (i : Nat) (ho : Own K B H a d) (hp : p a) (fr : ∀ (j : Nat) (e : D) (q : Addr → Prop), Γ[j]? = some (.ow e q) → σ[j]? ≠ some (some (.ref a))) : Sg K B H (σ.set i (some (.ref a))) (Γ.set i (.ow d p)) := by
  refine ⟨by rw [List.length_set, List.length_set, s.len], fun j e q => ?_, fun j e p' q => ?_, fun j k b e f pe pf q1 q2 q3 q4 => ?_⟩
  · rcases set_get q with ⟨rfl, w, l⟩ | ⟨w, q⟩
    · cases w
    · rw [set_off w]; exact s.val j e q
  · rcases set_get q with ⟨rfl, w, l⟩ | ⟨w, q⟩
    · cases w; exact ⟨a, set_at (by rw [s.len]; exact l), ho, hp⟩
    · rw [set_off w]; exact s.mt j e _ q
  · rcases set_get q1 with ⟨rfl, w, l⟩ | ⟨w1, q1⟩
    · rcases set_get q2 with ⟨rfl, w', l'⟩ | ⟨w2, q2⟩
      · rfl
      · rw [set_at (by rw [s.len]; exact l)] at q3
        cases q3
        rw [set_off w2] at q4
        exact (fr k f _ q2 q4).elim
    · rcases set_get q2 with ⟨rfl, w, l⟩ | ⟨w2, q2⟩
      · rw [set_at (by rw [s.len]; exact l)] at q4
        cases q4
        rw [set_off w1] at q3
        exact (fr j e _ q1 q3).elim
      · rw [set_off w1] at q3; rw [set_off w2] at q4; exact s.sep j k b e f _ _ q1 q2 q3 q4
/-- an owned thing changes -/
theorem Sg.change {i : Nat} {d0 : D} {p : Addr → Prop} (s : Sg K B H σ Γ) (e0 : Γ[i]? = some (.ow d0 p)) (e1 : σ[i]? = some (some (.ref a))) {o : HO} (ho : Own K B (upd H a o) a d) : Sg K B (upd H a o) σ (Γ.set i (.ow d p)) := by
  refine ⟨by rw [List.length_set, s.len], fun j e q => ?_, fun j e p' q => ?_, fun j k b e f pe pf q1 q2 q3 q4 => ?_⟩
  · rcases set_get q with ⟨rfl, w, l⟩ | ⟨w, q⟩
    · cases w
    · exact s.val j e q
  · rcases set_get q with ⟨rfl, w, l⟩ | ⟨w, q⟩
    · cases w
      obtain ⟨b, q1, q2, q3⟩ := s.mt i _ _ e0
      rw [e1] at q1; cases q1
      exact ⟨a, e1, ho, q3⟩
    · obtain ⟨b, q1, q2, q3⟩ := s.mt j e _ q
      have hne : b ≠ a := fun z => w (s.sep i j a _ _ _ _ e0 q e1 (z ▸ q1))
      exact ⟨b, q1, q2.keep (fun _ _ z => z) q2.none (fun o z => by rw [upd_ne hne]; exact z), q3⟩
  · have l1 : ∀ {j : Nat} {e : D} {pp : Addr → Prop}, (Γ.set i (.ow d p))[j]? = some (.ow e pp) → ∃ e' pp', Γ[j]? = some (.ow e' pp') := fun q => by
      rcases set_get q with ⟨rfl, w, l⟩ | ⟨w, q⟩
      · exact ⟨_, _, e0⟩
      · exact ⟨_, _, q⟩
    obtain ⟨e', _, q1⟩ := l1 q1
    obtain ⟨f', _, q2⟩ := l1 q2
    exact s.sep j k b _ _ _ _ q1 q2 q3 q4
/-- an owned thing is frozen in its slot -/
theorem Sg.freeze {i : Nat} {o : HO} {p : Addr → Prop} (s : Sg K B H σ Γ) (e0 : Γ[i]? = some (.ow d p)) (e1 : σ[i]? = some (some (.ref a))) (hb : B a = none) (hi : Is K (frz B a o) (.ref a) d) : Sg K (frz B a o) H σ (Γ.set i (.val d)) := by
  refine ⟨by rw [List.length_set, s.len], fun j e q => ?_, fun j e p' q => ?_, fun j k b e f pe pf q1 q2 q3 q4 => ?_⟩
  · rcases set_get q with ⟨rfl, w, l⟩ | ⟨w, q⟩
    · cases w; exact ⟨_, e1, hi⟩
    · exact (s.val j e q).imp fun _ z => ⟨z.1, z.2.mono (frz_gw hb)⟩
  · rcases set_get q with ⟨rfl, w, l⟩ | ⟨w, q⟩
    · cases w
    · obtain ⟨b, q1, q2, q3⟩ := s.mt j e _ q
      have hne : b ≠ a := fun z => w (s.sep i j a _ _ _ _ e0 q e1 (z ▸ q1))
      exact ⟨b, q1, q2.keep (frz_gw hb) (by rw [frz_ne hne]; exact q2.none) (fun _ z => z), q3⟩
  · rcases set_get q1 with ⟨rfl, w, l⟩ | ⟨w1, q1⟩
    · cases w
    · rcases set_get q2 with ⟨rfl, w, l⟩ | ⟨w2, q2⟩
      · cases w
      · exact s.sep j k b _ _ _ _ q1 q2 q3 q4
/-- at a statement: B0, H0 the entry's -/
structure At (K : PySem.W.Frag) (B0 : Kn) (H0 : Hp) (m : Nat) (B : Kn) (H : Hp) (σ : L2.St) (Γ : Gm) : Prop where
  go : Go B0 H0 B H
  le : Le m B H
  sg : Sg K B H σ Γ
  fr : ∀ (i : Nat) (d : D) (p : Addr → Prop) (a : Addr), Γ[i]? = some (.ow d p) → σ[i]? = some (some (.ref a)) → H0 a = none
variable {B0 : Kn} {H0 : Hp}
theorem At.step {m' : Nat} (s : At K B0 H0 m B H σ Γ) (g : Go B H B' H') (le : Le m' B' H') : At K B0 H0 m' B' H' σ Γ := ⟨s.go.trans g, le, s.sg.go g, s.fr⟩
theorem At.setVal (s : At K B0 H0 m B H σ Γ) (i : Nat) (h : Is K B v d) : At K B0 H0 m B H (σ.set i (some v)) (Γ.set i (.val d)) := by
  refine ⟨s.go, s.le, s.sg.setVal i h, fun j e p a q1 q2 => ?_⟩
  rcases set_get q1 with ⟨rfl, w, l⟩ | ⟨w, q⟩
  · cases w
  · rw [set_off w] at q2; exact s.fr j e _ a q q2
/-- what is new behind a state that began at H0 was new at H0 -/
theorem new_of (g : Go B0 H0 B H) (le0 : Le m B H) (hn : H a = none) : H0 a = none := by
  cases q : H0 a with
  | none => rfl
  | some o =>
    exfalso
    cases z : B0 a with
    | none => rw [(g.h a o q z).1] at hn; cases hn
    | some f =>
      have w := le0 a f (g.b a f z)
      cases f with
      | fz o => rcases w with w | ⟨_, _, w⟩ <;> (rw [hn] at w; cases w)
      | st => obtain ⟨_, _, _, w, _⟩ := w; rw [hn] at w; cases w
theorem At.setMut {B' : Kn} {H' : Hp} {m' : Nat} {p : Addr → Prop} (s : At K B0 H0 m B H σ Γ) (g : Go B H B' H') (le : Le m' B' H') (i : Nat) (hn : H a = none) (ho : Own K B' H' a d) (hp : p a) : At K B0 H0 m' B' H' (σ.set i (some (.ref a))) (Γ.set i (.ow d p)) := by
  refine ⟨s.go.trans g, le, (s.sg.go g).setMut i ho hp fun j e q q1 q2 => ?_, fun j e q b q1 q2 => ?_⟩
  · obtain ⟨b, q3, q4, _⟩ := s.sg.mt j e _ q1
    rw [q2] at q3
    cases q3
    obtain ⟨o, q5⟩ := q4.at_
    rw [hn] at q5; cases q5
  · rcases set_get q1 with ⟨rfl, w, l⟩ | ⟨w, q⟩
    · rw [set_at (by rw [s.sg.len]; exact l)] at q2
      cases q2
      exact new_of s.go s.le hn
    · rw [set_off w] at q2; exact s.fr j e _ b q q2
theorem At.change {i : Nat} {d0 : D} {o : HO} {p : Addr → Prop} (s : At K B0 H0 m B H σ Γ) (e0 : Γ[i]? = some (.ow d0 p)) (e1 : σ[i]? = some (some (.ref a))) (ho : Own K B (upd H a o) a d) : At K B0 H0 m B (upd H a o) σ (Γ.set i (.ow d p)) := by
  have h0 := s.fr i d0 _ a e0 e1
  refine ⟨⟨s.go.b, fun b o' e k => ⟨?_, (s.go.h b o' e k).2⟩, fun b o' u e => ?_⟩, fun b f k => ?_, s.sg.change e0 e1 ho, fun j e q b q1 q2 => ?_⟩
  · have q : b ≠ a := fun q => by rw [q, h0] at e; cases e
    rw [upd_ne q]; exact (s.go.h b o' e k).1
  · have q : b ≠ a := fun q => by rw [q, h0] at e; cases e
    rw [upd_ne q]; exact s.go.z b o' u e
  · have q : b ≠ a := fun q => by rw [q, ho.none] at k; cases k
    have w := s.le b f k
    cases f with
    | fz o => unfold Has at w ⊢; rw [upd_ne q]; exact w
    | st => unfold Has at w ⊢; rw [upd_ne q]; exact w
  · rcases set_get q1 with ⟨rfl, w, l⟩ | ⟨w, q⟩
    · rw [e1] at q2; cases q2; exact h0
    · exact s.fr j e _ b q q2
theorem At.freeze {i : Nat} {p : Addr → Prop} (s : At K B0 H0 m B H σ Γ) (e0 : Γ[i]? = some (.ow d p)) : ∃ B', At K B0 H0 m B' H σ (Γ.set i (.val d)) := by
  obtain ⟨a, e1, ho, _⟩ := s.sg.mt i d _ e0
  obtain ⟨o, ea, le, gw, hi⟩ := ho.froze s.le
  refine ⟨frz B a o, frz_go ho.none (s.fr i d _ a e0 e1) s.go, le, s.sg.freeze e0 e1 ho.none hi, fun j e q b q1 q2 => ?_⟩
  rcases set_get q1 with ⟨rfl, w, l⟩ | ⟨w, q⟩
  · cases w
  · exact s.fr j e _ b q q2
/-! ### the judgements -/
/-- t gives frozen data of which P; n draws at most -/
def DF (K : PySem.W.Frag) (t : TE) (Γ : Gm) (n : Nat) (P : D → Prop) : Prop :=
  ∀ m B H σ, Le (m + n) B H → Sg K B H σ Γ → ∀ Q : VK, (∀ v B' H' d, Go B H B' H' → Le m B' H' → Is K B' v d → P d → Q v H') → t σ H Q
/-- t gives a new owned thing -/
def DW (K : PySem.W.Frag) (t : TE) (Γ : Gm) (n : Nat) (P : D → Prop) : Prop :=
  ∀ m B H σ, Le (m + n) B H → Sg K B H σ Γ → ∀ Q : VK, (∀ a B' H' d, Go B H B' H' → Le m B' H' → H a = none → Own K B' H' a d → P d → Q (.ref a) H') → t σ H Q
/-- t gives what may be read -/
def DR (K : PySem.W.Frag) (t : TE) (Γ : Gm) (n : Nat) (P : D → Prop) : Prop :=
  ∀ m B H σ, Le (m + n) B H → Sg K B H σ Γ → ∀ Q : VK, (∀ v B' H' d, Go B H B' H' → Le m B' H' → Rv K B' H' v d → P d → Q v H') → t σ H Q
def DT (K : PySem.W.Frag) (t : TT) (Γ : Gm) (n : Nat) (P : Bool → Prop) : Prop :=
  ∀ m B H σ, Le (m + n) B H → Sg K B H σ Γ → ∀ Q : Bool → Hp → Prop, (∀ b B' H', Go B H B' H' → Le m B' H' → P b → Q b H') → t σ H Q
def DA (K : PySem.W.Frag) (t : TA) (Γ : Gm) (n : Nat) (P : List D → Prop) : Prop :=
  ∀ m B H σ, Le (m + n) B H → Sg K B H σ Γ → ∀ Q : List V → Hp → Prop, (∀ vs B' H' ds, Go B H B' H' → Le m B' H' → IsL K B' vs ds → P ds → Q vs H') → t σ H Q
theorem DW.f {t : TE} {P : D → Prop} (h : DW K t Γ n P) : DF K t Γ n P := by
  intro m B H σ le sg Q k
  refine h m B H σ le sg Q fun a B' H' d g le' hn ho p => ?_
  obtain ⟨o, ea, le2, gw, hi⟩ := ho.froze le'
  exact k _ _ _ d (frz_go ho.none hn g) le2 hi p
theorem DF.r {t : TE} {P : D → Prop} (h : DF K t Γ n P) : DR K t Γ n P := fun m B H σ le sg Q k => h m B H σ le sg Q fun v B' H' d g le' hi p => k v B' H' d g le' (.inl hi) p
theorem DF.imp {t : TE} {P P' : D → Prop} (h : DF K t Γ n P) (i : ∀ d, P d → P' d) : DF K t Γ n P' := fun m B H σ le sg Q k => h m B H σ le sg Q fun v B' H' d g le' hi p => k v B' H' d g le' hi (i d p)
theorem DR.imp {t : TE} {P P' : D → Prop} (h : DR K t Γ n P) (i : ∀ d, P d → P' d) : DR K t Γ n P' := fun m B H σ le sg Q k => h m B H σ le sg Q fun v B' H' d g le' hi p => k v B' H' d g le' hi (i d p)
theorem DW.imp {t : TE} {P P' : D → Prop} (h : DW K t Γ n P) (i : ∀ d, P d → P' d) : DW K t Γ n P' := fun m B H σ le sg Q k => h m B H σ le sg Q fun v B' H' d g le' hn hi p => k v B' H' d g le' hn hi (i d p)
theorem DT.imp {t : TT} {P P' : Bool → Prop} (h : DT K t Γ n P) (i : ∀ d, P d → P' d) : DT K t Γ n P' := fun m B H σ le sg Q k => h m B H σ le sg Q fun b B' H' g le' p => k b B' H' g le' (i b p)
theorem DA.imp {t : TA} {P P' : List D → Prop} (h : DA K t Γ n P) (i : ∀ d, P d → P' d) : DA K t Γ n P' := fun m B H σ le sg Q k => h m B H σ le sg Q fun v B' H' d g le' hi p => k v B' H' d g le' hi (i d p)
theorem DF.le {n' : Nat} {t : TE} {P : D → Prop} (h : DF K t Γ n P) (i : n ≤ n') : DF K t Γ n' P := fun m B H σ le sg Q k => h m B H σ (le.mono (by omega)) sg Q k
theorem DW.le {n' : Nat} {t : TE} {P : D → Prop} (h : DW K t Γ n P) (i : n ≤ n') : DW K t Γ n' P := fun m B H σ le sg Q k => h m B H σ (le.mono (by omega)) sg Q k
theorem DT.le {n' : Nat} {t : TT} {P : Bool → Prop} (h : DT K t Γ n P) (i : n ≤ n') : DT K t Γ n' P := fun m B H σ le sg Q k => h m B H σ (le.mono (by omega)) sg Q k
/-- what is wanted behind statements: of the slots and the draws left; of what is returned; of what is returned as owned -/
structure Posts where
  nx : Gm → Nat → Prop
  rt : D → Nat → Prop
  rw : D → Nat → Prop := fun _ _ => False
  bk : Gm → Nat → Prop := fun _ _ => False
  ct : Gm → Nat → Prop := fun _ _ => False
structure EOk (K : PySem.W.Frag) (B0 : Kn) (H0 : Hp) (E : Ends) (R : Posts) : Prop where
  nx : ∀ m B H σ Γ, At K B0 H0 m B H σ Γ → R.nx Γ m → E.nx σ H
  bk : ∀ m B H σ Γ, At K B0 H0 m B H σ Γ → R.bk Γ m → E.bk σ H
  ct : ∀ m B H σ Γ, At K B0 H0 m B H σ Γ → R.ct Γ m → E.ct σ H
  rt : ∀ m B H v d, Go B0 H0 B H → Le m B H → Is K B v d → R.rt d m → E.rt v H
  rw : ∀ m B H a d, Go B0 H0 B H → Le m B H → H0 a = none → Own K B H a d → R.rw d m → E.rt (.ref a) H
def DS (K : PySem.W.Frag) (t : TS) (Γ : Gm) (m : Nat) (R : Posts) : Prop := ∀ B0 H0 B H σ E, At K B0 H0 m B H σ Γ → EOk K B0 H0 E R → t E σ H
end
end DL
set_option Elab.async false
set_option linter.all false
set_option maxRecDepth 100000
set_option maxHeartbeats 2000000
/-! DL, part c: rules over the hand layer that serve several kinds of values at once. -/
namespace DL
open PySem L2 PyProof.Rows
section
variable {X : Cx}
/-! ### == and in, over data of any kind without dicts -/
def rEqP (K : PySem.W.Frag) : R2 := fun x y H Q => ∃ d e, Dp K H x d ∧ Dp K H y e ∧ d.plain = true ∧ e.plain = true ∧ min d.depth e.depth ≤ 60 ∧ Q (.bl (PyData.eqv d e)) H
def rNeP (K : PySem.W.Frag) : R2 := fun x y H Q => ∃ d e, Dp K H x d ∧ Dp K H y e ∧ d.plain = true ∧ e.plain = true ∧ min d.depth e.depth ≤ 60 ∧ Q (.bl (!PyData.eqv d e)) H
theorem op_eqP (hu : X.A.units + 64 < cLine) : OpR X (compareOp .Eq) (rEqP X.K) := by
  intro pins s σ H x y v u Q I rx ry h
  obtain ⟨d, e, hd, he, sd, se, hm, q⟩ := h
  obtain ⟨as, r1⟩ := Dp.reads I d x v hd rx
  obtain ⟨bs, r2⟩ := Dp.reads I e y u he ry
  exact SeqAt.eq_plain r1 r2 sd se (by omega) ⟨.bl _, H, I, rfl, q⟩
theorem op_neP (hu : X.A.units + 64 < cLine) : OpR X (compareOp .NotEq) (rNeP X.K) := by
  intro pins s σ H x y v u Q I rx ry h
  obtain ⟨d, e, hd, he, sd, se, hm, q⟩ := h
  obtain ⟨as, r1⟩ := Dp.reads I d x v hd rx
  obtain ⟨bs, r2⟩ := Dp.reads I e y u he ry
  exact SeqAt.ne_plain r1 r2 sd se (by omega) ⟨.bl _, H, I, rfl, q⟩
def rInP (K : PySem.W.Frag) (neg : Bool) : R2 := fun x y H Q => ∃ d ds, Dp K H x d ∧ (Dp K H y (.list ds) ∨ Dp K H y (.tuple ds)) ∧ d.plain = true ∧ PyData.plainAll ds = true ∧ min (PyData.depthAll ds) d.depth ≤ 60 ∧
  Q (.bl (if neg then !(ds.any fun z => PyData.eqv z d) else ds.any fun z => PyData.eqv z d)) H
theorem op_inP (hu : X.A.units + 64 < cLine) : OpR X (compareOp .In) (rInP X.K false) := by
  intro pins s σ H x y v u Q I rx ry h
  obtain ⟨d, ds, hd, he, sd, se, hm, q⟩ := h
  obtain ⟨as, r1⟩ := Dp.reads I d x v hd rx
  rcases he with he | he
  · obtain ⟨bs, r2⟩ := Dp.reads I _ y u he ry
    exact SeqAt.in_list_data r2 r1 se sd (by omega) ⟨.bl _, H, I, rfl, q⟩
  · obtain ⟨bs, r2⟩ := Dp.reads I _ y u he ry
    exact SeqAt.in_tuple_data r2 r1 se sd (by omega) ⟨.bl _, H, I, rfl, q⟩
theorem op_notInP (hu : X.A.units + 64 < cLine) : OpR X (compareOp .NotIn) (rInP X.K true) := by
  intro pins s σ H x y v u Q I rx ry h
  obtain ⟨d, ds, hd, he, sd, se, hm, q⟩ := h
  obtain ⟨as, r1⟩ := Dp.reads I d x v hd rx
  rcases he with he | he
  · obtain ⟨bs, r2⟩ := Dp.reads I _ y u he ry
    exact SeqAt.notIn_list_data r2 r1 se sd (by omega) ⟨.bl _, H, I, rfl, q⟩
  · obtain ⟨bs, r2⟩ := Dp.reads I _ y u he ry
    exact SeqAt.notIn_tuple_data r2 r1 se sd (by omega) ⟨.bl _, H, I, rfl, q⟩
/-- a key in a dict; None in one -/
def rInD (neg : Bool) : R2 := fun x y H Q => (∃ a o, y = .ref a ∧ DGet H a x o ∧ Q (.bl (if neg then !o.isSome else o.isSome)) H) ∨ ∃ a kvs, y = .ref a ∧ x = .non ∧ Rd H a (.dK kvs) ∧ Q (.bl neg) H
theorem op_inD (hu : X.A.units + 1 < cLine) : OpR X (compareOp .In) (rInD false) := by
  intro pins s σ H x y v u Q I rx ry h
  rcases h with ⟨a, o, rfl, g, q⟩ | ⟨a, kvs, rfl, rfl, g, q⟩
  · cases ry; exact d_in hu I g rx fun s' I' => ⟨.bl _, H, I', rfl, q⟩
  · cases ry; cases rx; exact d_inNone I g fun s' I' => ⟨.bl _, H, I', rfl, q⟩
theorem op_notInD (hu : X.A.units + 1 < cLine) : OpR X (compareOp .NotIn) (rInD true) := by
  intro pins s σ H x y v u Q I rx ry h
  rcases h with ⟨a, o, rfl, g, q⟩ | ⟨a, kvs, rfl, rfl, g, q⟩
  · cases ry; exact d_notIn hu I g rx fun s' I' => ⟨.bl _, H, I', rfl, q⟩
  · cases ry; cases rx; exact d_notInNone I g fun s' I' => ⟨.bl _, H, I', rfl, q⟩
/-- x in y, of whatever -/
def rInX [Wld] (K : PySem.W.Frag) : R2 := fun x y H Q => rInP K false x y H Q ∨ rInD false x y H Q ∨ L2.rInS x y H Q ∨ rInN K Wld.w false x y H Q
def rNinX [Wld] (K : PySem.W.Frag) : R2 := fun x y H Q => rInP K true x y H Q ∨ rInD true x y H Q ∨ L2.rNotInS x y H Q ∨ rInN K Wld.w true x y H Q
theorem op_inX (hu : X.A.units + 64 < cLine) : OpR X (compareOp .In) (@rInX ⟨X.w⟩ X.K) := (op_inP hu).or ((op_inD (by omega)).or (op_inS.or (op_inN hu)))
theorem op_ninX (hu : X.A.units + 64 < cLine) : OpR X (compareOp .NotIn) (@rNinX ⟨X.w⟩ X.K) := (op_notInP hu).or ((op_notInD (by omega)).or (op_notInS.or (op_ninN hu)))
/-! ### + and * -/
def rAddX (K : PySem.W.Frag) : R2 := fun x y H Q => rI0 (fun i j => .int (i + j)) x y H Q ∨ (∃ i j, x = .str i ∧ y = .str j ∧ i.length + j.length ≤ sizeLine ∧ Q (.str (i ++ j)) H) ∨ rCat x y H Q ∨ rCatA K x y H Q
theorem op_addX : OpR X (binaryOp .Add) (rAddX X.K) := op_add.or (op_add_str.or (op_cat.or op_catA))
def rMulX : R2 := fun x y H Q => rI CMulW (fun i j => .int (i * j)) x y H Q ∨ rRep x y H Q
theorem op_mulX : OpR X (binaryOp .Mult) rMulX := op_mulW.or op_rep
/-- a ** b, b not great -/
def CPowW (i j : Int) : Prop := 0 ≤ j ∧ (Builtin.Int.intBits i : Int) * j ≤ 2 ^ 27
theorem op_powW : OpR X (binaryOp .Pow) (rI CPowW fun i j => .int (i ^ j.toNat)) := opI fun _ _ _ _ _ _ _ hc q => PyProof.Rows.pow_int hc.1 hc.2 q
def rLtX : R2 := fun x y H Q => rI0 (fun i j => .bl (decide (i < j))) x y H Q ∨ (∃ i j, x = .str i ∧ y = .str j ∧ Q (.bl (decide (i.cps.toList < j.cps.toList))) H)
theorem op_ltX : OpR X (compareOp .Lt) rLtX := op_lt.or op_lt_str
def rGtX : R2 := fun x y H Q => rI0 (fun i j => .bl (decide (j < i))) x y H Q ∨ (∃ i j, x = .str i ∧ y = .str j ∧ Q (.bl (decide (j.cps.toList < i.cps.toList))) H)
theorem op_gtX : OpR X (compareOp .Gt) rGtX := op_gt.or op_gt_str
/-! ### subscripts -/
def rIxD : R2 := fun x y H Q => ∃ a v, x = .ref a ∧ DGet H a y (some v) ∧ Q v H
theorem ix_dict (hu : X.A.units + 1 < cLine) : IxR X rIxD := by
  intro value slice pins s σ H x y v u Q I rx ry h hs
  obtain ⟨a, z, rfl, g, q⟩ := h
  cases rx
  exact tail_any (dict_typeIs I g) PySem.F.slot_dict_getitem.lookup (d_getItem hu I g ry fun w' s' I' r => ⟨_, H, I', r, q⟩) hs
/-- a subscript by values, of own classes too -/
def IxO (X : Cx) (r : R2) : Prop :=
  ∀ (value slice : Expr) (pins : List (Addr × Obj)) (s : Shared) (σ : L2.St) (H : Hp) (x y : V) (v u : Value) (Q : VK), Inv X pins σ H s → RelV x v → RelV y u → r x y H Q →
    subscripted slice false v u = operate [v, u] (getItem v u) → subscripted slice true v u = runValue (.builtin "lifetime.subscript" ⟨[v, u], []⟩) → wpAny (model X.prog X.w) X.A (subscriptTail value slice v u) (EP X pins σ Q) X.xe s
theorem IxO.of {r : R2} (h : IxR X r) : IxO X r := fun value slice pins s σ H x y v u Q I rx ry q hs _ => h value slice pins s σ H x y v u Q I rx ry q hs
theorem IxO.or {r r' : R2} (h : IxO X r) (h' : IxO X r') : IxO X (fun x y H Q => r x y H Q ∨ r' x y H Q) :=
  fun value slice pins s σ H x y v u Q I rx ry q h1 h2 => q.elim (fun q => h value slice pins s σ H x y v u Q I rx ry q h1 h2) fun q => h' value slice pins s σ H x y v u Q I rx ry q h1 h2
theorem pe_ixO {a b : Expr} {ta tb : TE} {pos : Pos} {r : R2} (hr : IxO X r) (ha : PE X a ta) (hb : PE X b tb) (hs : PlainIx b := by intro _ _; rfl)
    (hs2 : ∀ o i, subscripted b true o i = runValue (.builtin "lifetime.subscript" ⟨[o, i], []⟩) := by intro _ _; rfl) : PE X (.Subscript a b pos) (tOp r ta tb) := by
  refine ⟨fun pins s σ H Q I h => ?_⟩
  exact PyProof.Rows.Subscript_ (binT ha hb I h fun v u s2 x y H2 I2 rx ry q => hr a b pins s2 σ H2 x y v u Q I2 rx ry q (hs _ _) (hs2 _ _))
/-- list, tuple, text, dict -/
def rIxX [Wld] (K : PySem.W.Frag) : R2 := fun x y H Q => rIx K x y H Q ∨ rIxD x y H Q ∨ rIxN K Wld.w x y H Q
theorem ix_X (hu : X.A.units + 64 < cLine) : IxR X (@rIxX ⟨X.w⟩ X.K) := ix_seq.or ((ix_dict (by omega)).or (ix_N hu))
/-- an instance of the class at C with an own __getitem__ -/
structure GetOf (K : PySem.W.Frag) (C f : Addr) : Prop where
  at_ : PySem.W.findIn K (.ref C) "__getitem__" = some (some (.ref f))
  fn : PySem.W.fnIn K f = true
  isf : PySem.W.isFn K (.ref f) = true
def rIxO (C : Addr) (sp : Sp) : R2 := fun x y H Q => ∃ a dx fs, x = .ref a ∧ H a = some (.ins C dx fs) ∧ sp [.ref a, y] H Q E0
theorem ix_own {CX : CXT} {k : Nat} {C f : Addr} {fd : FuncData} {ps : List Str} {sp : Sp} (c : Cls X.K C) (g : GetOf X.K C f) (F : FnOk X.prog X.w X.K X.mg X.base CX k f fd ps sp) (hr : Room (k + 1) X.A) (hb : Binds X.K fd ps []) (hx : Passes CX X E0) : IxO X (rIxO C sp) := by
  intro value slice pins s σ H x y v u Q I rx ry h hs hs2
  obtain ⟨a, dx, fs, rfl, e, q⟩ := h
  cases rx
  obtain ⟨m, fr⟩ := I.fr
  obtain ⟨mA, O, _, _, _, _⟩ := ins_get I.hok e
  obtain ⟨od, J, _⟩ := O.look
  refine PySem.W.sub_K fr I.ok.mod.kin J g.at_ g.fn g.isf ?_ hs2
  have r2 : Vals [V.ref a, y] [Value.ref a, u] := .cons rfl (.cons ry .nil)
  have hl : ([Value.ref a, u] ++ ([] : List Value)).length = ps.length := by
    rw [List.append_nil, ← r2.length]; exact F.len _ _ _ _ q
  refine wpAny_call (codeAny_mono (F.run X.A.in1 X.stack s H ⟨[.ref a, u], []⟩ [.ref a, u] [.ref a, y] Q E0 hr.in1 I.env0.in1 (by have := hb s [.ref a, u] I.kIn hl; rw [List.append_nil] at this; exact this) r2 q) fun r s' hq => ?_)
  cases r with
  | error e => exact hx pins σ H s e s' I hq
  | ok fl =>
    cases fl with
    | ret u => exact I.after hq
    | next => exact False.elim hq
    | brk => exact False.elim hq
    | cont => exact False.elim hq
/-! ### built-ins -/
def rLenY (K : PySem.W.Frag) : List V → Hp → VK → Prop := fun xs H Q => (∃ x n, xs = [x] ∧ LenV K x H n ∧ Q (.int n) H) ∨ ∃ a kvs, xs = [.ref a] ∧ Rd H a (.dK kvs) ∧ Q (.int kvs.length) H
theorem call_lenY : CallR X (.builtin "len") (rLenY X.K) := by
  intro pins s σ H xs us Q I r h
  rcases h with h | ⟨a, kvs, rfl, e, q⟩
  · exact call_len pins s σ H xs us Q I r h
  · obtain ⟨u, rfl, rx⟩ := vals1 r
    obtain rfl : u = Value.ref a := rx
    exact d_len I e fun t s' I' => ⟨.int _, H, I', ⟨t, rfl⟩, q⟩
def rLenX [Wld] (K : PySem.W.Frag) : List V → Hp → VK → Prop := fun xs H Q => rLenY K xs H Q ∨ rLenN K Wld.w xs H Q
theorem call_lenX : CallR X (.builtin "len") (@rLenX ⟨X.w⟩ X.K) := call_lenY.or call_lenN
def rKeysOf (mk : List V → HO) : List V → Hp → VK → Prop := fun xs H Q => ∃ p kvs, xs = [.ref p] ∧ Rd H p (.dK kvs) ∧ ∀ q, H q = none → Q (.ref q) (upd H q (mk (kvs.map fun kv => kV kv.1)))
theorem call_list_keys (hc : X.calm = true) : CallR X (.type "list") (rKeysOf .lst) := by
  intro pins s σ H xs us Q I r h
  obtain ⟨p, kvs, e, hk, q⟩ := h
  subst e
  obtain ⟨u, eu, rx⟩ := vals1 r
  subst eu
  obtain rfl : u = Value.ref p := rx
  obtain ⟨z, lo, vs, rk, hd⟩ := dk_rd I.hok hk
  obtain ⟨ep, hat⟩ := hd.dictAt
  have hl : kvs.length = vs.length := Paired.length rk
  refine PySem.W.kdl_call (PySem.W.kdl_dict (knd := mixKind X.prog X.w) (kvs := vs) (ep := ep) lo) (I.ok.hd hc) hat (by rw [← hl]; exact z) fun h' tk acc' c' hkeep hS hacc => ?_
  refine ⟨.ref s.heap.objs.size, upd H s.heap.objs.size (.lst (kvs.map fun kv => kV kv.1)), I.laid hkeep (Nat.le_refl _) (show ObjOk X.prog X.w _ _ _ (.lst (kvs.map fun kv => kV kv.1)) from ⟨?_, acc'.toList, c', ?_, ?_⟩), rfl, q _ (I.hok.fresh (Nat.le_refl _))⟩
  · rw [List.length_map]; exact z
  · have el : acc'.toList.length = acc'.size := by simp
    refine vals_of_at (by rw [List.length_map, el, hacc.1, hl]) fun j x w h1 h2 => ?_
    obtain ⟨k, y, hky, hi⟩ := hacc.2 j w (by rw [← Array.getElem?_toList]; exact h2)
    have e1 : (kvs.map (·.1))[j]? = some k := by
      rw [KV.keys rk, List.getElem?_map, hky] <;> rfl
    have e2 : (kvs.map fun kv => kV kv.1)[j]? = some (kV k) := by
      have e3 : (kvs.map fun kv => kV kv.1) = (kvs.map (·.1)).map kV := by rw [List.map_map] <;> rfl
      rw [e3, List.getElem?_map, e1] <;> rfl
    rw [e2] at h1
    cases h1
    exact keyIs_rel hi
  · rw [Array.toArray_toList]; exact hS
end
end DL
namespace DL
open PySem L2
section
variable {prog : Program} {w : World} {A : Around} {E : Value → Shared → Prop} {s : Shared} {r d : Addr} {n : Nat} {P : Nat → Value → Prop} {OK : Heap → Prop}
open PySem.W in
theorem code_tuple_new_src {T : String} (K : KdlSrc prog w T r d n P OK) {Q₁ : Value → Shared → Prop} (hT : s.TypeIs (.ref r) T) (hne : T ≠ "tuple" ∧ T ≠ "list") (hh : A.handled = none) (hok : OK s.heap) (hlen : n ≤ sizeLine)
    (h : ∀ (h' : Heap) (tk : Nat) (acc : Array Value), (∀ b o, s.heap.get? b = some o → h'.get? b = some o) → ItemsOf P acc n →
      Q₁ (.ref h'.objs.size) { s with heap := h'.push { cls := .type "tuple", data := .seq acc }, toks := tk }) :
    codeAny (model prog w) A (.call (.builtin "tuple.__new__") ⟨[.type "tuple", .ref r], []⟩) (wants Q₁ E) s := by
  refine codeAny_of_tree ?_
  show wpAny _ A.in1 (do checkBuiltinCall "tuple.__new__" ⟨[.type "tuple", .ref r], []⟩; again (.builtin "tuple.__new__" ⟨[.type "tuple", .ref r], []⟩)) _ _ s
  refine wpAny_bind (wpAny_of_eq (F.newCall_tuple_1 _) (wpAny_pure ⟨plainId_quiet F.plain_tuple_new _, codeAny_builtin F.entry_tuple_new ?_⟩))
  rw [Around.under_plainId F.plain_tuple_new _]
  have hsub := sub_tuple_self
  have hinit := init_tuple_lookup
  have hmh := madeHere_tuple
  have hh1 : A.in1.handled = none := hh
  have h1 : (Value.type T == Value.type "tuple") = false := beq_eq_false_iff_ne.mpr fun q => hne.1 (by injection q)
  wp_walk using wpAny_typeOf hT, kdu_collect (A := A.in1) K hh1 hok hlen
  intro h' tk acc hk hacc
  show wpAny _ _ (Builtin.Tuple.tupleExact acc.toList.toArray >>= fun v => ret v) _ _ _
  unfold Builtin.Tuple.tupleExact
  refine wpAny_bind (wpAny_newObj_type ?_ (by show acc.toList.toArray.size ≤ sizeLine; simp only [Array.toArray_toList]; rw [hacc.1]; exact hlen))
  refine wpAny_pure ?_
  have e : acc.toList.toArray = acc := by simp
  rw [e]
  exact h h' tk acc hk hacc
end
end DL
namespace DL
open PySem L2 PyProof.Rows
section
variable {prog : Program} {w : World} {A : Around} {E : Value → Shared → Prop} {s : Shared} {r d : Addr} {n : Nat} {P : Nat → Value → Prop} {OK : Heap → Prop}
open PySem.W in
theorem call_tuple_src {T : String} (K : KdlSrc prog w T r d n P OK) {Q : Value → Shared → Prop} (hT : s.TypeIs (.ref r) T) (hne : T ≠ "tuple" ∧ T ≠ "list") (hh : A.handled = none) (hok : OK s.heap) (hlen : n ≤ sizeLine)
    (hQ : ∀ (h' : Heap) (tk : Nat) (acc : Array Value), (∀ b o, s.heap.get? b = some o → h'.get? b = some o) → ItemsOf P acc n →
      Q (.ref h'.objs.size) { s with heap := h'.push { cls := .type "tuple", data := .seq acc }, toks := tk }) :
    wpAny (model prog w) A (call (.type "tuple") [.ref r]) Q E s := by
  refine callType_codes (Q₁ := fun obj s₁ => s₁.TypeIs obj "tuple" ∧ Q obj s₁) F.called_tuple (F.typeCall_tuple_1 _) F.entry_object_init
    (code_tuple_new_src (A := A.in1) K hT hne hh hok hlen fun h' tk acc hk hacc => ⟨⟨_, Heap.get?_push_size _ rfl, rfl⟩, hQ h' tk acc hk hacc⟩) fun obj s₁ h₁ => ?_
  exact ⟨h₁.1, F.args_object_init_2 obj _, object_init_meets F.called_tuple.init.lookup F.called_tuple.made (by decide) prog w A.in1 _ s₁ ⟨h₁.1, rfl, h₁.2⟩⟩
end
section
variable {X : Cx}
theorem call_tuple_keys (hc : X.calm = true) : CallR X (.type "tuple") (rKeysOf .tup) := by
  intro pins s σ H xs us Q I r h
  obtain ⟨p, kvs, e, hk, q⟩ := h
  subst e
  obtain ⟨u, eu, rx⟩ := vals1 r
  subst eu
  obtain rfl : u = Value.ref p := rx
  obtain ⟨z, lo, vs, rk, hd⟩ := dk_rd I.hok hk
  obtain ⟨ep, hat⟩ := hd.dictAt
  have hl : kvs.length = vs.length := Paired.length rk
  refine call_tuple_src (PySem.W.kdl_dict (knd := mixKind X.prog X.w) (kvs := vs) (ep := ep) lo) (T := "dict") hd.typeIs ⟨by decide, by decide⟩ (I.ok.hd hc) hat (by rw [← hl]; exact z) fun h' tk acc hkeep hacc => ?_
  have I1 : Inv X pins σ H { s with heap := h', toks := tk } := I.kept hkeep
  refine ⟨.ref h'.objs.size, upd H h'.objs.size (.tup (kvs.map fun kv => kV kv.1)), I1.laid (fun b o e => Heap.get?_push_of_some _ e) (Nat.le_refl _) (show ObjOk X.prog X.w _ _ _ (.tup (kvs.map fun kv => kV kv.1)) from ⟨?_, acc.toList, ?_, ⟨_, Heap.get?_push_size _ rfl, rfl, 0, ?_⟩⟩), rfl, q _ (I1.hok.fresh (Nat.le_refl _))⟩
  · rw [List.length_map]; exact z
  · have el : acc.toList.length = acc.size := by simp
    refine vals_of_at (by rw [List.length_map, el, hacc.1, hl]) fun j x w h1 h2 => ?_
    obtain ⟨k, y, hky, hi⟩ := hacc.2 j w (by rw [← Array.getElem?_toList]; exact h2)
    have e1 : (kvs.map (·.1))[j]? = some k := by
      rw [KV.keys rk, List.getElem?_map, hky] <;> rfl
    have e2 : (kvs.map fun kv => kV kv.1)[j]? = some (kV k) := by
      have e3 : (kvs.map fun kv => kV kv.1) = (kvs.map (·.1)).map kV := by rw [List.map_map] <;> rfl
      rw [e3, List.getElem?_map, e1] <;> rfl
    rw [e2] at h1
    cases h1
    exact keyIs_rel hi
  · rw [Array.toArray_toList]
def rListX [Wld] (K : PySem.W.Frag) : List V → Hp → VK → Prop := fun xs H Q => (∃ p ys, xs = [.ref p] ∧ (SqL K H p ys ∨ SqT K H p ys) ∧ ∀ l, H l = none → Q (.ref l) (upd H l (.lst ys))) ∨ rKeysOf .lst xs H Q ∨ rListN K Wld.w xs H Q
theorem call_listX (hc : X.calm = true) : CallR X (.type "list") (@rListX ⟨X.w⟩ X.K) := call_list_of.or ((call_list_keys hc).or (call_listN hc))
def rTupX (K : PySem.W.Frag) : List V → Hp → VK → Prop := fun xs H Q => (∃ p ys, xs = [.ref p] ∧ ((SqL K H p ys ∧ ∀ l, H l = none → Q (.ref l) (upd H l (.tup ys))) ∨ (SqT K H p ys ∧ Q (.ref p) H))) ∨ rKeysOf .tup xs H Q
theorem call_tupleX (hc : X.calm = true) : CallR X (.type "tuple") (rTupX X.K) := call_tuple_of.or (call_tuple_keys hc)
def rStrX : List V → Hp → VK → Prop := fun xs H Q => ∃ a, xs = [.str a] ∧ Q (.str a) H
theorem call_strX : CallR X (.type "str") rStrX := SkE.call_str_str
def rIntX : List V → Hp → VK → Prop := fun xs H Q => (∃ i, xs = [.int i] ∧ Q (.int i) H) ∨ ∃ k, xs = [.bl k] ∧ Q (.int (if k then 1 else 0)) H
theorem call_intX : CallR X (.type "int") rIntX := call_int1
def rMax2 : List V → Hp → VK → Prop := fun xs H Q => ∃ i j, xs = [.int i, .int j] ∧ Q (.int (if j > i then j else i)) H
def rMin2 : List V → Hp → VK → Prop := fun xs H Q => ∃ i j, xs = [.int i, .int j] ∧ Q (.int (if j < i then j else i)) H
theorem call_maxX (hc : X.calm = true) : CallR X (.builtin "max") rMax2 := call_max2 hc
theorem call_minX (hc : X.calm = true) : CallR X (.builtin "min") rMin2 := call_min2 hc
/-- sorted(xs) of texts or ints, fewer than 64 -/
def rSortX (K : PySem.W.Frag) : List V → Hp → VK → Prop := fun xs H Q => rSortedS K xs H Q ∨ rSorted K xs H Q
theorem call_sortX : CallR X (.builtin "sorted") (rSortX X.K) := cr_sortedS.or cr_sorted
def rIsiX (K : PySem.W.Frag) : List V → Hp → VK → Prop := fun xs H Q => rIsi K xs H Q ∨ rIsiT K xs H Q
theorem call_isiX : CallR X (.builtin "isinstance") (rIsiX X.K) := call_isi.or call_isiT
def rJoinX (K : PySem.W.Frag) : V → List V → Hp → VK → Prop := fun x xs H Q => ∃ a p, ∃ ys : List Str, x = .str a ∧ xs = [.ref p] ∧ (SqL K H p (ys.map V.str) ∨ SqT K H p (ys.map V.str)) ∧
    (ys.map (·.length)).sum + ys.length * a.length ≤ 16777216 ∧ Q (.str (Txt.join a ys)) H
theorem mt_joinX : MtR X "str.join" (rJoinX X.K) := mt_join
end
end DL
set_option Elab.async false
set_option linter.all false
set_option maxRecDepth 100000
set_option maxHeartbeats 2000000
/-! DL, part d: rules for expressions. -/
namespace DL
open PySem L2
section
variable [Wld] {K : PySem.W.Frag} {B B' B1 B2 : Kn} {H H' H1 H2 : Hp} {m n n1 n2 : Nat} {a : Addr} {v : V} {d : D} {Γ : Gm}
/-! ### data as the library's data -/
mutual
theorem Is.dp (le : Le m B H) {v : V} {d : D} (h : Is K B v d) (p : d.py.plain = true) : Dp K H v d.py := by
  cases h with
  | non => exact .non
  | bl b => exact .bl b
  | int i => exact .int i
  | str s => exact .str s
  | lst e r =>
    rcases le _ _ e with q | ⟨q, _⟩
    · exact .lst (.inl (.inl q)) (IsL.dp le r p)
    · cases q
  | tup e r => exact .tup (e.sq le) (IsL.dp le r p)
  | dK e r => cases p
  | dT e r => cases p
  | dN e r => cases p
  | ins e r => cases p
  | st e => cases p
theorem IsL.dp (le : Le m B H) {vs : List V} {ds : List D} (h : IsL K B vs ds) (p : PyData.plainAll (pyL ds) = true) : DpAll K H vs (pyL ds) := by
  cases h with
  | nil => exact .nil
  | cons x r =>
    have p' := Bool.and_eq_true_iff.mp p
    exact .cons (Is.dp le x p'.1) (IsL.dp le r p'.2)
end
theorem Rv.dp (le : Le m B H) {v : V} {d : D} (h : Rv K B H v d) (p : d.plain = true) : Dp K H v d.py := by
  rcases h with h | ⟨a, e, h⟩
  · exact h.dp le p
  · subst e
    cases d with
    | lst ds => obtain ⟨_, vs, q, r⟩ := h; exact .lst (.inl (.inl q)) (r.dp le p)
    | dK _ => cases p
    | dT _ => cases p
    | dN _ => cases p
    | ins _ _ => cases p
    | _ => exact h.elim
/-! ### functions on data -/
def keyD : D → Option Key
  | .str s => some (.inr s)
  | .int i => some (.inl i)
  | _ => none
theorem keyD_v {k : Key} {d : D} (h : keyD d = some k) (r : Rv K B H v d) : v = kV k := by
  cases d <;> first | (cases h; done) | (have e := rv_scal r rfl; cases h; exact e)
def eqF (x y : D) : Option Bool := if x.plain = true ∧ y.plain = true ∧ min x.depth y.depth ≤ 60 then some (D.eqv x y) else none
mutual
/-- data as a key -/
def dnk : D → Option NestedKey
  | .non => some .none | .int i => some (.num i) | .str s => some (.text s) | .tup xs => (dnks xs).map .tup
  | _ => none
def dnks : List D → Option (List NestedKey)
  | [] => some []
  | d :: r => (dnk d).bind fun k => (dnks r).map (k :: ·)
end
mutual
theorem dnk_is : ∀ {d : D} {k : NestedKey}, dnk d = some k → d = nkD k
  | .non, _, h => by cases h; rfl
  | .int i, _, h => by cases h; rfl
  | .str s, _, h => by cases h; rfl
  | .tup xs, k, h => by
    have h : (dnks xs).map NestedKey.tup = some k := h
    obtain ⟨ks, e, q⟩ := Option.map_eq_some_iff.mp h
    subst q
    show D.tup xs = .tup (nkD.nkDs ks)
    rw [dnks_is e]
theorem dnks_is : ∀ {xs : List D} {ks : List NestedKey}, dnks xs = some ks → xs = nkD.nkDs ks
  | [], _, h => by cases h; rfl
  | d :: r, ks, h => by
    have h : ((dnk d).bind fun k => (dnks r).map (k :: ·)) = some ks := h
    obtain ⟨k, e1, h⟩ := Option.bind_eq_some_iff.mp h
    obtain ⟨ks', e2, q⟩ := Option.map_eq_some_iff.mp h
    subst q
    show _ = nkD k :: nkD.nkDs ks'
    rw [← dnk_is e1, ← dnks_is e2]
end
mutual
theorem dnk_nk : ∀ k : NestedKey, dnk (nkD k) = some k
  | .none => rfl
  | .num _ => rfl
  | .text _ => rfl
  | .tup ks => by show (dnks (nkD.nkDs ks)).map NestedKey.tup = _; rw [dnks_nk ks]; rfl
theorem dnks_nk : ∀ ks : List NestedKey, dnks (nkD.nkDs ks) = some ks
  | [] => rfl
  | k :: r => by show ((dnk (nkD k)).bind fun k => (dnks (nkD.nkDs r)).map (k :: ·)) = _; rw [dnk_nk k, dnks_nk r]; rfl
end
/-- a tuple as a key of a dict -/
def tkey (d : D) : Option NestedKey := match dnk d with
  | some (.tup ks) => if (NestedKey.tup ks).depth ≤ 8 then some (.tup ks) else none
  | _ => none
theorem tkey_is {d : D} {k : NestedKey} (h : tkey d = some k) : d = nkD k ∧ k.depth ≤ 8 ∧ ∃ ks, k = .tup ks := by
  unfold tkey at h
  split at h
  · rename_i ks e
    split at h
    · cases h; exact ⟨dnk_is e, by assumption, ks, rfl⟩
    · cases h
  · cases h
theorem tkey_nk {ks : List NestedKey} (h : (NestedKey.tup ks).depth ≤ 8) : tkey (nkD (.tup ks)) = some (.tup ks) := by
  unfold tkey
  rw [dnk_nk]
  show (if _ then _ else _) = _
  rw [if_pos h]
theorem tkey_v {d : D} {k : NestedKey} (le : Le m B H) (h : tkey d = some k) (r : Rv K B H v d) : ∃ b, v = .ref b ∧ NkB K B v k ∧ k.depth ≤ 8 := by
  obtain ⟨e, hd, ks, ek⟩ := tkey_is h
  subst ek; subst e
  rcases r with r | ⟨a, _, f⟩
  · have q := Is.nk r
    cases q with
    | tup e1 e2 => exact ⟨_, rfl, .tup e1 e2, hd⟩
  · exact f.elim
def inF (x c : D) : Option Bool := match c with
  | .lst ds => if x.plain = true ∧ (D.lst ds).plain = true ∧ min (PyData.depthAll (pyL ds)) x.depth ≤ 60 then some (ds.any fun z => D.eqv z x) else none
  | .tup ds => if x.plain = true ∧ (D.lst ds).plain = true ∧ min (PyData.depthAll (pyL ds)) x.depth ≤ 60 then some (ds.any fun z => D.eqv z x) else none
  | .dK kvs => match x with
    | .str s => some (valD kvs (.inr s)).isSome
    | .int i => some (valD kvs (.inl i)).isSome
    | .non => some false
    | _ => none
  | .dN kvs => (tkey x).map fun k => (valD kvs k).isSome
  | .str z => match x with
    | .str y => match y.cps.toList with
      | [c] => some (decide (c ∈ z.cps.toList))
      | _ => none
    | _ => none
  | _ => none
def ixF (c i : D) : Option D := match c, i with
  | .lst ds, .int i => atI ds i
  | .tup ds, .int i => atI ds i
  | .str z, .int i => if z.length ≤ sizeLine then (atI z.cps.toList i).map fun c => .str ⟨#[c]⟩ else none
  | .dK kvs, .str s => valD kvs (.inr s)
  | .dK kvs, .int i => valD kvs (.inl i)
  | .dN kvs, i => (tkey i).bind fun k => valD kvs k
  | _, _ => none
def addF (x y : D) : Option D := match x, y with
  | .int i, .int j => some (.int (i + j))
  | .str a, .str b => if a.length + b.length ≤ sizeLine then some (.str (a ++ b)) else none
  | .tup a, .tup b => if a.length + b.length ≤ sizeLine then some (.tup (a ++ b)) else none
  | .lst a, .lst b => if a.length + b.length ≤ sizeLine then some (.lst (a ++ b)) else none
  | _, _ => none
def ltF (x y : D) : Option Bool := match x, y with
  | .int i, .int j => some (decide (i < j))
  | .str a, .str b => some (decide (a.cps.toList < b.cps.toList))
  | _, _ => none
def gtF (x y : D) : Option Bool := ltF y x
def blF (o : Option Bool) : Option D := o.map .bl
def notO (o : Option Bool) : Option Bool := o.map not
/-! ### operators -/
def ROk (K : PySem.W.Frag) (r : R2) (f : D → D → Option D) : Prop := ∀ m B H x y d e z, Le m B H → Rv K B H x d → Rv K B H y e → f d e = some z →
  ∀ Q : VK, (∀ v B' H', Go B H B' H' → Le m B' H' → Is K B' v z → Q v H') → r x y H Q
def WOk (K : PySem.W.Frag) (r : R2) (f : D → D → Option D) : Prop := ∀ m B H x y d e z, Le m B H → Rv K B H x d → Rv K B H y e → f d e = some z →
  ∀ Q : VK, (∀ a B' H', Go B H B' H' → Le m B' H' → H a = none → Own K B' H' a z → Q (.ref a) H') → r x y H Q
theorem WOk.f {r : R2} {f : D → D → Option D} (h : WOk K r f) : ROk K r f := by
  intro m B H x y d e z le rx ry hf Q k
  refine h m B H x y d e z le rx ry hf Q fun a B' H' g le' hn ho => ?_
  obtain ⟨o, ea, le2, gw, hi⟩ := ho.froze le'
  exact k _ _ _ (frz_go ho.none hn g) le2 hi
/-- a new object -/
theorem go_new {o : HO} {p : Addr} (le : Le m B H) (hp : H p = none) : Go B H B (upd H p o) ∧ Le m B (upd H p o) ∧ B p = none := by
  have hb : B p = none := by
    cases q : B p with
    | none => rfl
    | some f =>
      exfalso
      have w := le p f q
      cases f with
      | fz o => rcases w with w | ⟨_, _, w⟩ <;> (rw [hp] at w; cases w)
      | st => obtain ⟨_, _, _, w, _⟩ := w; rw [hp] at w; cases w
  refine ⟨⟨fun _ _ h => h, fun b o' e k => ⟨?_, k⟩, fun b o' u e => ?_⟩, fun b f k => ?_, hb⟩
  · rw [upd_ne fun q => by rw [q, hp] at e; cases e]; exact e
  · rw [upd_ne fun q => by rw [q, hp] at e; cases e]; exact e
  · have q : b ≠ p := fun q => by rw [q, hb] at k; cases k
    have w := le b f k
    cases f with
    | fz o => unfold Has at w ⊢; rw [upd_ne q]; exact w
    | st => unfold Has at w ⊢; rw [upd_ne q]; exact w
/-- a new tuple, frozen at once -/
theorem new_tup {vs : List V} {ds : List D} {p : Addr} (le : Le m B H) (hp : H p = none) (r : IsL K B vs ds) : ∃ B', Go B H B' (upd H p (.tup vs)) ∧ Le m B' (upd H p (.tup vs)) ∧ Is K B' (.ref p) (.tup ds) := by
  obtain ⟨g, le2, hb⟩ := go_new (o := .tup vs) le hp
  exact ⟨frz B p (.tup vs), frz_go hb hp g, frz_le le2 upd_same, .tup (.inl frz_same) (r.mono (frz_gw hb))⟩
theorem new_lst {vs : List V} {ds : List D} {p : Addr} (le : Le m B H) (hp : H p = none) (r : IsL K B vs ds) : Go B H B (upd H p (.lst vs)) ∧ Le m B (upd H p (.lst vs)) ∧ Own K B (upd H p (.lst vs)) p (.lst ds) := by
  obtain ⟨g, le2, hb⟩ := go_new (o := .lst vs) le hp
  exact ⟨g, le2, hb, vs, upd_same, r⟩
theorem new_dK {vs : List (Key × V)} {ds : List (Key × D)} {p : Addr} (le : Le m B H) (hp : H p = none) (r : IsK K B vs ds) : Go B H B (upd H p (.dK vs)) ∧ Le m B (upd H p (.dK vs)) ∧ Own K B (upd H p (.dK vs)) p (.dK ds) := by
  obtain ⟨g, le2, hb⟩ := go_new (o := .dK vs) le hp
  exact ⟨g, le2, hb, vs, upd_same, r⟩
theorem ok_i0 (g : Int → Int → V) (f : Int → Int → D) (hg : ∀ B i j, Is K B (g i j) (f i j)) : ROk K (rI0 g) (fun x y => match x, y with | .int i, .int j => some (f i j) | _, _ => none) := by
  intro m B H x y d e z le rx ry hf Q k
  cases d <;> try (cases hf; done)
  cases e <;> try (cases hf; done)
  cases hf
  exact ⟨_, _, rv_scal rx rfl, rv_scal ry rfl, k _ B H (Go.refl B H) le (hg _ _ _)⟩
theorem ok_iC (C : Int → Int → Prop) (g : Int → Int → Int) (c : Int → Int → Bool) (hc : ∀ i j, c i j = true → C i j) : ROk K (rI C fun i j => .int (g i j)) (fun x y => match x, y with | .int i, .int j => if c i j = true then some (.int (g i j)) else none | _, _ => none) := by
  intro m B H x y d e z le rx ry hf Q k
  cases d <;> try (cases hf; done)
  cases e <;> try (cases hf; done)
  rename_i i j
  have hf : (if c i j = true then some (D.int (g i j)) else none) = some z := hf
  by_cases w : c i j = true
  · rw [if_pos w] at hf; cases hf
    exact ⟨_, _, rv_scal rx rfl, rv_scal ry rfl, hc _ _ w, k _ B H (Go.refl B H) le (.int _)⟩
  · rw [if_neg w] at hf; cases hf
theorem eqF_dp {x y : D} {b : Bool} (h : eqF x y = some b) : x.plain = true ∧ y.plain = true ∧ min x.depth y.depth ≤ 60 ∧ b = D.eqv x y := by
  unfold eqF at h
  split at h
  · rename_i w; cases h; exact ⟨w.1, w.2.1, w.2.2, rfl⟩
  · cases h
theorem ok_eq : ROk K (rEqP K) (fun x y => blF (eqF x y)) := by
  intro m B H x y d e z le rx ry hf Q k
  obtain ⟨b, hb, rfl⟩ := Option.map_eq_some_iff.mp hf
  obtain ⟨p1, p2, p3, rfl⟩ := eqF_dp hb
  exact ⟨_, _, rx.dp le p1, ry.dp le p2, p1, p2, p3, k _ B H (Go.refl B H) le (.bl _)⟩
theorem ok_ne : ROk K (rNeP K) (fun x y => blF (notO (eqF x y))) := by
  intro m B H x y d e z le rx ry hf Q k
  obtain ⟨b, hb, rfl⟩ := Option.map_eq_some_iff.mp hf
  obtain ⟨b', hb', rfl⟩ := Option.map_eq_some_iff.mp hb
  obtain ⟨p1, p2, p3, rfl⟩ := eqF_dp hb'
  exact ⟨_, _, rx.dp le p1, ry.dp le p2, p1, p2, p3, k _ B H (Go.refl B H) le (.bl _)⟩
theorem any_py (x : D) : ∀ ds : List D, ((pyL ds).any fun z => PyData.eqv z x.py) = ds.any fun z => D.eqv z x
  | [] => rfl
  | d :: r => by show (PyData.eqv d.py x.py || _) = (D.eqv d x || _); rw [any_py x r]; rfl
theorem isK_get {vs : List (Key × V)} {ds : List (Key × D)} (r : IsK K B vs ds) (k : Key) : (valV vs k).isSome = (valD ds k).isSome := (r.val k).isSome
theorem str_one {y : Str} {c : Nat} (h : y.cps.toList = [c]) : y = ⟨#[c]⟩ := by
  cases y with
  | mk cps =>
    have e : cps = #[c] := by
      apply Array.toList_inj.mp
      simpa using h
    rw [e]
theorem ok_inG (neg : Bool) : ∀ {m B H x y d e z}, Le m B H → Rv K B H x d → Rv K B H y e → inF d e = some z →
    ∀ Q : VK, Q (.bl (if neg then !z else z)) H → rInP K neg x y H Q ∨ rInD neg x y H Q ∨ (∃ (c : Nat) (s : Str), x = .str ⟨#[c]⟩ ∧ y = .str s ∧ Q (.bl (if neg then !decide (c ∈ s.cps.toList) else decide (c ∈ s.cps.toList))) H) ∨ rInN K Wld.w neg x y H Q := by
  intro m B H x y d e z le rx ry hf Q k
  cases e with
  | lst ds =>
    unfold inF at hf
    dsimp only at hf
    split at hf
    · rename_i w
      cases hf
      refine .inl ⟨_, _, rx.dp le w.1, .inl (ry.dp le w.2.1), w.1, w.2.1, w.2.2, ?_⟩
      rw [any_py]; exact k
    · cases hf
  | tup ds =>
    unfold inF at hf
    dsimp only at hf
    split at hf
    · rename_i w
      cases hf
      refine .inl ⟨_, _, rx.dp le w.1, .inr (ry.dp le (show (D.tup ds).plain = true from w.2.1)), w.1, w.2.1, w.2.2, ?_⟩
      rw [any_py]; exact k
    · cases hf
  | dK kvs =>
    obtain ⟨a, vs, rfl, hr, r⟩ := rv_dK ry le
    cases d <;> try (cases hf; done)
    · cases hf
      refine .inr (.inl (.inr ⟨a, vs, rfl, rv_scal rx rfl, hr, ?_⟩))
      cases neg <;> exact k
    · cases hf
      refine .inr (.inl (.inl ⟨a, _, rfl, .inl ⟨vs, .inl _, hr, rv_scal rx rfl, rfl⟩, ?_⟩))
      rw [isK_get r]; exact k
    · cases hf
      refine .inr (.inl (.inl ⟨a, _, rfl, .inl ⟨vs, .inr _, hr, rv_scal rx rfl, rfl⟩, ?_⟩))
      rw [isK_get r]; exact k
  | dN kvs =>
    obtain ⟨q, hq, e⟩ := Option.map_eq_some_iff.mp (show (tkey d).map (fun k => (valD kvs k).isSome) = some z from hf)
    obtain ⟨b, rfl, kb, kd⟩ := tkey_v le hq rx
    obtain ⟨a, xs, rfl, hr, r⟩ := rv_dN ry le
    refine .inr (.inr (.inr ⟨a, b, xs, q, rfl, rfl, hr, kb.at_ le, kd, ?_⟩))
    rw [(r.val q).isSome, e]; exact k
  | str s =>
    cases d <;> try (cases hf; done)
    rename_i y
    unfold inF at hf
    dsimp only at hf
    split at hf
    · rename_i c hc
      cases hf
      refine .inr (.inr (.inl ⟨c, s, ?_, rv_scal ry rfl, k⟩))
      rw [rv_scal rx rfl]
      show V.str y = _
      rw [str_one hc]
    · cases hf
  | _ => cases hf
theorem ok_in : ROk K (rInX K) (fun x y => blF (inF x y)) := by
  intro m B H x y d e z le rx ry hf Q k
  obtain ⟨b, hb, rfl⟩ := Option.map_eq_some_iff.mp hf
  have q := ok_inG (K := K) false le rx ry hb Q (k _ B H (Go.refl B H) le (.bl _))
  exact q
theorem ok_nin : ROk K (rNinX K) (fun x y => blF (notO (inF x y))) := by
  intro m B H x y d e z le rx ry hf Q k
  obtain ⟨b, hb, rfl⟩ := Option.map_eq_some_iff.mp hf
  obtain ⟨b', hb', rfl⟩ := Option.map_eq_some_iff.mp hb
  have q := ok_inG (K := K) true le rx ry hb' Q (k _ B H (Go.refl B H) le (.bl _))
  exact q
theorem ok_add : ROk K (rAddX K) addF := by
  intro m B H x y d e z le rx ry hf Q k
  cases d with
  | int i =>
    cases e <;> try (cases hf; done)
    cases hf
    exact .inl ⟨_, _, rv_scal rx rfl, rv_scal ry rfl, k _ B H (Go.refl B H) le (.int _)⟩
  | str s =>
    cases e <;> try (cases hf; done)
    unfold addF at hf
    dsimp only at hf
    split at hf
    · rename_i w; cases hf
      exact .inr (.inl ⟨_, _, rv_scal rx rfl, rv_scal ry rfl, w, k _ B H (Go.refl B H) le (.str _)⟩)
    · cases hf
  | tup xs =>
    cases e <;> try (cases hf; done)
    rename_i ys
    unfold addF at hf
    dsimp only at hf
    split at hf
    · rename_i w; cases hf
      obtain ⟨a, vs, rfl, h1, r1, t1⟩ := rv_tup rx le
      obtain ⟨b, ws, rfl, h2, r2, t2⟩ := rv_tup ry le
      refine .inr (.inr (.inr ⟨a, b, vs, ws, rfl, rfl, h1, h2, by rw [r1.length, r2.length]; exact w, fun e1 => ?_, fun e1 e2 => ?_, fun e1 e2 p hp => ?_⟩))
      · subst e1; cases r1; exact k _ B H (Go.refl B H) le (.tup t2 r2)
      · subst e2; cases r2; rw [List.append_nil] at k; exact k _ B H (Go.refl B H) le (.tup t1 r1)
      · obtain ⟨B', g, le2, hi⟩ := new_tup le hp (r1.append r2)
        exact k _ _ _ g le2 hi
    · cases hf
  | lst xs =>
    cases e <;> try (cases hf; done)
    rename_i ys
    unfold addF at hf
    dsimp only at hf
    split at hf
    · rename_i w; cases hf
      obtain ⟨a, vs, rfl, h1, r1⟩ := rv_lst rx le
      obtain ⟨b, ws, rfl, h2, r2⟩ := rv_lst ry le
      refine .inr (.inr (.inl ⟨a, b, vs, ws, rfl, rfl, h1, h2, by rw [r1.length, r2.length]; exact w, fun p hp => ?_⟩))
      obtain ⟨g, le2, ho⟩ := new_lst le hp (r1.append r2)
      obtain ⟨o, ea, le3, gw, hi⟩ := ho.froze le2
      exact k _ _ _ (frz_go ho.none hp g) le3 hi
    · cases hf
  | _ => cases hf
/-- a + b of lists, the new one owned -/
def addL (x y : D) : Option D := match x, y with
  | .lst a, .lst b => if a.length + b.length ≤ sizeLine then some (.lst (a ++ b)) else none
  | _, _ => none
theorem ok_addL : WOk K (rAddX K) addL := by
  intro m B H x y d e z le rx ry hf Q k
  cases d <;> try (cases hf; done)
  cases e <;> try (cases hf; done)
  unfold addL at hf
  dsimp only at hf
  split at hf
  · rename_i w; cases hf
    obtain ⟨a, vs, rfl, h1, r1⟩ := rv_lst rx le
    obtain ⟨b, ws, rfl, h2, r2⟩ := rv_lst ry le
    refine .inr (.inr (.inl ⟨a, b, vs, ws, rfl, rfl, h1, h2, by rw [r1.length, r2.length]; exact w, fun p hp => ?_⟩))
    obtain ⟨g, le2, ho⟩ := new_lst le hp (r1.append r2)
    exact k _ _ _ g le2 hp ho
  · cases hf
def mulF (x y : D) : Option D := match x, y with
  | .int i, .int j => if i.natAbs.log2 + j.natAbs.log2 < 1000000 then some (.int (i * j)) else none
  | .lst a, .int k => if 0 ≤ k ∧ k < 1000000 ∧ a.length * k.toNat ≤ sizeLine then some (.lst (List.replicate k.toNat a).flatten) else none
  | _, _ => none
theorem ok_mul : ROk K rMulX mulF := by
  intro m B H x y d e z le rx ry hf Q k
  cases d <;> try (cases hf; done)
  · cases e <;> try (cases hf; done)
    unfold mulF at hf
    dsimp only at hf
    split at hf
    · rename_i w; cases hf
      exact .inl ⟨_, _, rv_scal rx rfl, rv_scal ry rfl, w, k _ B H (Go.refl B H) le (.int _)⟩
    · cases hf
  · cases e <;> try (cases hf; done)
    unfold mulF at hf
    dsimp only at hf
    split at hf
    · rename_i w; cases hf
      obtain ⟨a, vs, rfl, h1, r1⟩ := rv_lst rx le
      refine .inr ⟨a, _, vs, rfl, rv_scal ry rfl, h1, by omega, by omega, by rw [r1.length]; exact w.2.2, fun p hp => ?_⟩
      obtain ⟨g, le2, ho⟩ := new_lst le hp (r1.rep _)
      obtain ⟨o, ea, le3, gw, hi⟩ := ho.froze le2
      exact k _ _ _ (frz_go ho.none hp g) le3 hi
    · cases hf
theorem ok_lt : ROk K rLtX (fun x y => blF (ltF x y)) := by
  intro m B H x y d e z le rx ry hf Q k
  obtain ⟨b, hb, rfl⟩ := Option.map_eq_some_iff.mp hf
  cases d <;> try (cases hb; done)
  · cases e <;> try (cases hb; done)
    cases hb
    exact .inl ⟨_, _, rv_scal rx rfl, rv_scal ry rfl, k _ B H (Go.refl B H) le (.bl _)⟩
  · cases e <;> try (cases hb; done)
    cases hb
    exact .inr ⟨_, _, rv_scal rx rfl, rv_scal ry rfl, k _ B H (Go.refl B H) le (.bl _)⟩
theorem ok_gt : ROk K rGtX (fun x y => blF (gtF x y)) := by
  intro m B H x y d e z le rx ry hf Q k
  obtain ⟨b, hb, rfl⟩ := Option.map_eq_some_iff.mp hf
  cases d <;> cases e <;> try (cases hb; done)
  · cases hb
    exact .inl ⟨_, _, rv_scal rx rfl, rv_scal ry rfl, k _ B H (Go.refl B H) le (.bl _)⟩
  · cases hb
    exact .inr ⟨_, _, rv_scal rx rfl, rv_scal ry rfl, k _ B H (Go.refl B H) le (.bl _)⟩
def D.isN : D → Bool
  | .non => true
  | _ => false
theorem rv_isN {x : V} {d : D} (rx : Rv K B H x d) : decide (x = V.non) = d.isN := by
  cases d with
  | non => rw [rv_scal rx rfl]; rfl
  | bl _ => rw [rv_scal rx rfl]; rfl
  | int _ => rw [rv_scal rx rfl]; rfl
  | str _ => rw [rv_scal rx rfl]; rfl
  | _ => rcases rx with h | ⟨a, rfl, _⟩ <;> first | (cases h; exact decide_eq_false (fun q => nomatch q)) | exact decide_eq_false (fun q => nomatch q)
/-- x is None: the right side None -/
def isF (x y : D) : Option Bool := match y with
  | .non => some x.isN
  | _ => none
theorem ok_isN : ROk K L2.rIsN (fun x y => blF (isF x y)) := by
  intro m B H x y d e z le rx ry hf Q k
  cases e <;> try (cases hf; done)
  refine ⟨rv_scal ry rfl, ?_⟩
  cases hf
  rw [rv_isN rx]
  exact k _ B H (Go.refl B H) le (.bl _)
theorem ok_notN : ROk K L2.rNotN (fun x y => blF (notO (isF x y))) := by
  intro m B H x y d e z le rx ry hf Q k
  cases e <;> try (cases hf; done)
  refine ⟨rv_scal ry rfl, ?_⟩
  cases hf
  rw [rv_isN rx]
  exact k _ B H (Go.refl B H) le (.bl _)
theorem ixN_len {α β : Type} {xs : List α} {ys : List β} (h : xs.length = ys.length) (i : Int) : ixN xs.length i = ixN ys.length i := by rw [h]
theorem IsL.at_ {vs : List V} {ds : List D} {i : Int} {d : D} (r : IsL K B vs ds) (h : atI ds i = some d) : ∃ v, atI vs i = some v ∧ Is K B v d := by
  unfold atI at h ⊢
  rw [r.length]
  cases e : ixN ds.length i with
  | none => rw [e] at h; cases h
  | some j => rw [e] at h; exact r.get h
theorem ok_ix : ROk K (rIxX K) ixF := by
  intro m B H x y d e z le rx ry hf Q k
  cases d <;> try (cases hf; done)
  · cases e <;> try (cases hf; done)
    unfold ixF at hf
    dsimp only at hf
    split at hf
    · rename_i w
      obtain ⟨c, hc, rfl⟩ := Option.map_eq_some_iff.mp hf
      exact .inl (.inr (.inr ⟨_, _, c, rv_scal rx rfl, rv_scal ry rfl, w, hc, k _ B H (Go.refl B H) le (.str _)⟩))
    · cases hf
  · cases e <;> try (cases hf; done)
    obtain ⟨a, vs, rfl, h1, r1⟩ := rv_lst rx le
    obtain ⟨v, hv, hi⟩ := r1.at_ hf
    exact .inl (.inl ⟨a, vs, _, v, rfl, rv_scal ry rfl, .inl (.inl h1), hv, k _ B H (Go.refl B H) le hi⟩)
  · cases e <;> try (cases hf; done)
    obtain ⟨a, vs, rfl, h1, r1, _⟩ := rv_tup rx le
    obtain ⟨v, hv, hi⟩ := r1.at_ hf
    exact .inl (.inr (.inl ⟨a, vs, _, v, rfl, rv_scal ry rfl, h1, hv, k _ B H (Go.refl B H) le hi⟩))
  · obtain ⟨a, vs, rfl, h1, r1⟩ := rv_dK rx le
    have go : ∀ (ky : Key), y = kV ky → valD _ ky = some z → rIxX K (.ref a) y H Q := fun ky ek hv => by
      have w := r1.val ky
      rw [hv] at w
      cases ev : valV vs ky with
      | none => rw [ev] at w; exact w.elim
      | some v => rw [ev] at w; exact .inr (.inl ⟨a, v, rfl, .inl ⟨vs, ky, h1, ek, ev.symm⟩, k _ B H (Go.refl B H) le w⟩)
    cases e <;> try (cases hf; done)
    · exact go (.inl _) (rv_scal ry rfl) hf
    · exact go (.inr _) (rv_scal ry rfl) hf
  · rename_i kvs
    obtain ⟨q, hq, e⟩ := Option.bind_eq_some_iff.mp (show (tkey e).bind (fun k => valD kvs k) = some z from hf)
    obtain ⟨b, rfl, kb, kd⟩ := tkey_v le hq ry
    obtain ⟨a, xs, rfl, hr, r⟩ := rv_dN rx le
    have w := r.val q
    rw [e] at w
    cases ev : valN xs q with
    | none => rw [ev] at w; exact w.elim
    | some v => rw [ev] at w; exact .inr (.inr ⟨a, b, xs, q, v, rfl, rfl, hr, kb.at_ le, kd, ev, k _ B H (Go.refl B H) le w⟩)
end
end DL
set_option Elab.async false
set_option linter.all false
set_option maxRecDepth 100000
set_option maxHeartbeats 2000000
/-! DL, part e: expressions, by their readings. -/
namespace DL
open PySem L2
section
variable [Wld] {K : PySem.W.Frag} {m n n1 n2 : Nat} {d x y z : D} {Γ : Gm} {ta tb te tc : TE} {t u : TT} {P P1 P2 P3 : D → Prop} {b c : Bool}
/-! ### names, constants -/
theorem f_var {i : Nat} (h : Γ[i]? = some (.val d)) : DF K (tVar i) Γ n (· = d) := by
  intro m B H σ le sg Q k
  obtain ⟨v, e, hi⟩ := sg.val i d h
  exact ⟨v, e, k v B H d (Go.refl B H) (le.mono (by omega)) hi rfl⟩
theorem r_var {i : Nat} {p : Addr → Prop} (h : Γ[i]? = some (.ow d p)) : DR K (tVar i) Γ n (· = d) := by
  intro m B H σ le sg Q k
  obtain ⟨a, e, hi, _⟩ := sg.mt i d _ h
  exact ⟨_, e, k _ B H d (Go.refl B H) (le.mono (by omega)) (.inr ⟨a, rfl, hi⟩) rfl⟩
theorem f_c {v : V} (h : ∀ B, Is K B v d) : DF K (tC v) Γ n (· = d) := fun m B H σ le sg Q k => k v B H d (Go.refl B H) (le.mono (by omega)) (h B) rfl
theorem c_int {i : Int} : DF K (tC (.int i)) Γ n (· = .int i) := f_c fun _ => .int i
theorem c_str {s : Str} : DF K (tC (.str s)) Γ n (· = .str s) := f_c fun _ => .str s
theorem c_bl {s : Bool} : DF K (tC (.bl s)) Γ n (· = .bl s) := f_c fun _ => .bl s
theorem c_non : DF K (tC .non) Γ n (· = .non) := f_c fun _ => .non
/-- a tuple of the written part -/
theorem c_tup {a : Addr} {vs : List V} {ds : List D} (h : ∃ (o : Obj) (its : Array Value) (n : Nat), K.lookup a = some o ∧ o.cls = .type "tuple" ∧ o.data = .seq its n ∧ its.size ≤ sizeLine ∧ Vals vs its.toList) (r : ∀ B, IsL K B vs ds) :
    DF K (tC (.ref a)) Γ n (· = .tup ds) := f_c fun B => .tup (.inr h) (r B)
/-! ### operators -/
theorem f_op {r : R2} {f : D → D → Option D} (ok : ROk K r f) (ha : DR K ta Γ n1 P1) (hb : DR K tb Γ n2 P2) (h : ∀ x y, P1 x → P2 y → ∃ z, f x y = some z ∧ P z) : DF K (tOp r ta tb) Γ (n1 + n2) P := by
  intro m B H σ le sg Q k
  refine ha (m + n2) B H σ (le.mono (by omega)) sg _ fun v B1 H1 x g1 le1 r1 p1 => hb m B1 H1 σ le1 (sg.go g1) _ fun w B2 H2 y g2 le2 r2 p2 => ?_
  obtain ⟨z, hz, pz⟩ := h x y p1 p2
  exact ok m B2 H2 v w x y z le2 (r1.go g2) r2 hz Q fun v B3 H3 g3 le3 hi => k v B3 H3 z ((g1.trans g2).trans g3) le3 hi pz
theorem w_op {r : R2} {f : D → D → Option D} (ok : WOk K r f) (ha : DR K ta Γ n1 P1) (hb : DR K tb Γ n2 P2) (h : ∀ x y, P1 x → P2 y → ∃ z, f x y = some z ∧ P z) : DW K (tOp r ta tb) Γ (n1 + n2) P := by
  intro m B H σ le sg Q k
  refine ha (m + n2) B H σ (le.mono (by omega)) sg _ fun v B1 H1 x g1 le1 r1 p1 => hb m B1 H1 σ le1 (sg.go g1) _ fun w B2 H2 y g2 le2 r2 p2 => ?_
  obtain ⟨z, hz, pz⟩ := h x y p1 p2
  exact ok m B2 H2 v w x y z le2 (r1.go g2) r2 hz Q fun a B3 H3 g3 le3 hn hi => k a B3 H3 z ((g1.trans g2).trans g3) le3 (new_of (g1.trans g2) le2 hn) hi pz
theorem e_op {r : R2} {f : D → D → Option D} (ok : ROk K r f) (ha : DR K ta Γ 0 (· = x)) (hb : DR K tb Γ 0 (· = y)) (h : f x y = some z) : DF K (tOp r ta tb) Γ 0 (· = z) :=
  f_op (n1 := 0) (n2 := 0) ok ha hb fun _ _ e1 e2 => ⟨z, by rw [e1, e2]; exact h, rfl⟩
theorem ew_op {r : R2} {f : D → D → Option D} (ok : WOk K r f) (ha : DR K ta Γ 0 (· = x)) (hb : DR K tb Γ 0 (· = y)) (h : f x y = some z) : DW K (tOp r ta tb) Γ 0 (· = z) :=
  w_op (n1 := 0) (n2 := 0) ok ha hb fun _ _ e1 e2 => ⟨z, by rw [e1, e2]; exact h, rfl⟩
/-- a chain x op y op' z -/
theorem f_chain {r r' : R2} {f g : D → D → Option D} (ok : ROk K r f) (ok' : ROk K r' g) (ha : DR K ta Γ n1 P1) (hb : DR K tb Γ n2 P2) (hc : DR K tc Γ n P3)
    (h : ∀ x y, P1 x → P2 y → ∃ b, f x y = some (.bl b) ∧ (b = false → P (.bl false)) ∧ (b = true → ∀ z, P3 z → ∃ q, g y z = some q ∧ P q)) : DF K (tChain r r' ta tb tc) Γ (n1 + n2 + n) P := by
  intro m B H σ le sg Q k
  refine ha (m + n2 + n) B H σ (le.mono (by omega)) sg _ fun v B1 H1 x g1 le1 r1 p1 => hb (m + n) B1 H1 σ (le1.mono (by omega)) (sg.go g1) _ fun w B2 H2 y g2 le2 r2 p2 => ?_
  obtain ⟨b, hz, pf, pt⟩ := h x y p1 p2
  refine ok (m + n) B2 H2 v w x y _ le2 (r1.go g2) r2 hz _ fun v B3 H3 g3 le3 hi => ?_
  cases hi
  refine ⟨b, rfl, ?_⟩
  cases b with
  | false => exact iteF (k _ B3 H3 _ ((g1.trans g2).trans g3) (le3.mono (by omega)) (.bl _) (pf rfl))
  | true =>
    refine iteT (hc m B3 H3 σ le3 (sg.go ((g1.trans g2).trans g3)) _ fun v B4 H4 z g4 le4 r4 p4 => ?_)
    obtain ⟨q, hq, pq⟩ := pt rfl z p4
    exact ok' m B4 H4 w v y z q le4 (r2.go (g3.trans g4)) r4 hq Q fun v B5 H5 g5 le5 hi => k v B5 H5 q ((((g1.trans g2).trans g3).trans g4).trans g5) le5 hi pq
theorem e_chain {r r' : R2} {f g : D → D → Option Bool} (ok : ROk K r (fun x y => blF (f x y))) (ok' : ROk K r' (fun x y => blF (g x y))) (ha : DR K ta Γ 0 (· = x)) (hb : DR K tb Γ 0 (· = y)) (hc : DR K tc Γ 0 (· = z)) (h1 : f x y = some b) (h2 : g y z = some c) :
    DF K (tChain r r' ta tb tc) Γ 0 (· = .bl (b && c)) :=
  f_chain (n1 := 0) (n2 := 0) (n := 0) ok ok' ha hb hc fun _ _ e1 e2 => ⟨b, by rw [e1, e2]; exact congrArg blF h1, fun e => by rw [e]; rfl, fun e _ e3 => ⟨.bl c, by rw [e2, e3]; exact congrArg blF h2, by rw [e]; rfl⟩⟩
/-- one place -/
theorem f_neg (ha : DR K ta Γ n P1) (h : ∀ x, P1 x → ∃ i, x = .int i ∧ P (.int (-i))) : DF K (tUn (rU fun i => .int (-i)) ta) Γ n P := by
  intro m B H σ le sg Q k
  refine ha m B H σ le sg _ fun v B1 H1 x g1 le1 r1 p1 => ?_
  obtain ⟨i, rfl, p⟩ := h x p1
  exact ⟨i, rv_scal r1 rfl, k _ B1 H1 _ g1 le1 (.int _) p⟩
/-! ### tests -/
theorem t_test (h : DF K te Γ n P) {Pb : Bool → Prop} (hb : ∀ d, P d → ∃ b, d = .bl b ∧ Pb b) : DT K (tTest te) Γ n Pb := by
  intro m B H σ le sg Q k
  refine h m B H σ le sg _ fun v B1 H1 x g1 le1 r1 p1 => ?_
  obtain ⟨b, rfl, p⟩ := hb x p1
  cases r1
  exact ⟨b, rfl, k b B1 H1 g1 le1 p⟩
theorem e_test (h : DF K te Γ n (· = .bl b)) : DT K (tTest te) Γ n (· = b) := t_test h fun _ e => ⟨b, e, rfl⟩
theorem e_B (h : DF K te Γ n (· = .bl b)) : DT K (tB te) Γ n (· = b) := e_test h
def truF : D → Option Bool
  | .non => some false
  | .bl b => some b
  | .int i => some (i != 0)
  | .str s => if s.length ≤ sizeLine then some ((s.length : Int) != 0) else none
  | .lst xs => some (!xs.isEmpty)
  | .tup xs => some (!xs.isEmpty)
  | _ => none
theorem IsL.empty {B : Kn} {vs : List V} {ds : List D} (r : IsL K B vs ds) : vs.isEmpty = ds.isEmpty := by cases r <;> rfl
theorem t_tru (h : DR K te Γ n P) {Pb : Bool → Prop} (hb : ∀ d, P d → ∃ b, truF d = some b ∧ Pb b) : DT K (fun σ H Q => te σ H fun x H' => ∃ k, TruV K x H' k ∧ Q k H') Γ n Pb := by
  intro m B H σ le sg Q k
  refine h m B H σ le sg _ fun v B1 H1 x g1 le1 r1 p1 => ?_
  obtain ⟨b, hb, p⟩ := hb x p1
  refine ⟨b, ?_, k b B1 H1 g1 le1 p⟩
  cases x with
  | non => rw [rv_scal r1 rfl]; cases hb; rfl
  | bl _ => rw [rv_scal r1 rfl]; cases hb; rfl
  | int _ => rw [rv_scal r1 rfl]; cases hb; rfl
  | str s =>
    rw [rv_scal r1 rfl]
    unfold truF at hb
    dsimp only at hb
    split at hb
    · rename_i w; cases hb; exact ⟨w, rfl⟩
    · cases hb
  | lst xs =>
    obtain ⟨a, vs, rfl, h1, r⟩ := rv_lst r1 le1
    cases hb
    exact .inl ⟨vs, .inl (.inl h1), by rw [r.empty]⟩
  | tup xs =>
    obtain ⟨a, vs, rfl, h1, r, _⟩ := rv_tup r1 le1
    cases hb
    exact .inr (.inl ⟨vs, h1, by rw [r.empty]⟩)
  | _ => cases hb
theorem e_tru (h : DR K te Γ n (· = d)) (hb : truF d = some b) : DT K (fun σ H Q => te σ H fun x H' => ∃ k, TruV K x H' k ∧ Q k H') Γ n (· = b) := t_tru h fun _ e => ⟨b, by rw [e]; exact hb, rfl⟩
theorem t_not {Pb Pc : Bool → Prop} (h : DT K t Γ n Pb) (i : ∀ b, Pb b → Pc (!b)) : DT K (tNot t) Γ n Pc := fun m B H σ le sg Q k => h m B H σ le sg _ fun b B1 H1 g1 le1 p => k _ B1 H1 g1 le1 (i b p)
theorem e_not (h : DT K t Γ n (· = b)) : DT K (tNot t) Γ n (· = !b) := t_not h fun _ e => by rw [e]
theorem t_and {Pb Pc : Bool → Prop} (h : DT K t Γ n1 Pb) (h1 : Pb true → DT K u Γ n2 Pc) (h2 : Pb false → Pc false) : DT K (tAnd t u) Γ (n1 + n2) Pc := by
  intro m B H σ le sg Q k
  refine h (m + n2) B H σ (le.mono (by omega)) sg _ fun b B1 H1 g1 le1 p => ?_
  cases b with
  | false => exact iteF (k _ B1 H1 g1 (le1.mono (by omega)) (h2 p))
  | true => exact iteT (h1 p m B1 H1 σ le1 (sg.go g1) _ fun b B2 H2 g2 le2 p => k b B2 H2 (g1.trans g2) le2 p)
theorem e_and (h : DT K t Γ 0 (· = b)) (h1 : b = true → DT K u Γ 0 (· = c)) : DT K (tAnd t u) Γ 0 (· = (b && c)) :=
  t_and (n1 := 0) (n2 := 0) h (fun e => (h1 e.symm).imp fun _ q => by rw [q, ← e]; rfl) fun e => by rw [← e]; rfl
theorem t_or {Pb Pc : Bool → Prop} (h : DT K t Γ n1 Pb) (h1 : Pb false → DT K u Γ n2 Pc) (h2 : Pb true → Pc true) : DT K (tOr t u) Γ (n1 + n2) Pc := by
  intro m B H σ le sg Q k
  refine h (m + n2) B H σ (le.mono (by omega)) sg _ fun b B1 H1 g1 le1 p => ?_
  cases b with
  | true => exact iteT (k _ B1 H1 g1 (le1.mono (by omega)) (h2 p))
  | false => exact iteF (h1 p m B1 H1 σ le1 (sg.go g1) _ fun b B2 H2 g2 le2 p => k b B2 H2 (g1.trans g2) le2 p)
theorem e_or (h : DT K t Γ 0 (· = b)) (h1 : b = false → DT K u Γ 0 (· = c)) : DT K (tOr t u) Γ 0 (· = (b || c)) :=
  t_or (n1 := 0) (n2 := 0) h (fun e => (h1 e.symm).imp fun _ q => by rw [q, ← e]; rfl) fun e => by rw [← e]; rfl
theorem DT.cast {b' : Bool} (h : DT K t Γ n (· = b)) (e : b = b') : DT K t Γ n (· = b') := e ▸ h
theorem DF.cast {d' : D} (h : DF K te Γ n (· = d)) (e : d = d') : DF K te Γ n (· = d') := e ▸ h
theorem DW.cast {d' : D} (h : DW K te Γ n (· = d)) (e : d = d') : DW K te Γ n (· = d') := e ▸ h
theorem DR.cast {d' : D} (h : DR K te Γ n (· = d)) (e : d = d') : DR K te Γ n (· = d') := e ▸ h
/-- a if t else b -/
theorem f_if {Pb : Bool → Prop} (h : DT K t Γ n1 Pb) (h1 : Pb true → DF K ta Γ n2 P) (h2 : Pb false → DF K tb Γ n2 P) : DF K (tIf t ta tb) Γ (n1 + n2) P := by
  intro m B H σ le sg Q k
  refine h (m + n2) B H σ (le.mono (by omega)) sg _ fun b B1 H1 g1 le1 p => ?_
  cases b with
  | true => exact iteT (h1 p m B1 H1 σ le1 (sg.go g1) _ fun b B2 H2 d g2 le2 hi p => k b B2 H2 d (g1.trans g2) le2 hi p)
  | false => exact iteF (h2 p m B1 H1 σ le1 (sg.go g1) _ fun b B2 H2 d g2 le2 hi p => k b B2 H2 d (g1.trans g2) le2 hi p)
theorem w_if {Pb : Bool → Prop} (h : DT K t Γ n1 Pb) (h1 : Pb true → DW K ta Γ n2 P) (h2 : Pb false → DW K tb Γ n2 P) : DW K (tIf t ta tb) Γ (n1 + n2) P := by
  intro m B H σ le sg Q k
  refine h (m + n2) B H σ (le.mono (by omega)) sg _ fun b B1 H1 g1 le1 p => ?_
  cases b with
  | true => exact iteT (h1 p m B1 H1 σ le1 (sg.go g1) _ fun b B2 H2 d g2 le2 hn hi p => k b B2 H2 d (g1.trans g2) le2 (new_of g1 le1 hn) hi p)
  | false => exact iteF (h2 p m B1 H1 σ le1 (sg.go g1) _ fun b B2 H2 d g2 le2 hn hi p => k b B2 H2 d (g1.trans g2) le2 (new_of g1 le1 hn) hi p)
theorem e_if (h : DT K t Γ 0 (· = b)) (h1 : b = true → DF K ta Γ 0 (· = x)) (h2 : b = false → DF K tb Γ 0 (· = y)) : DF K (tIf t ta tb) Γ 0 (· = if b = true then x else y) :=
  f_if (n1 := 0) (n2 := 0) h (fun e => (h1 e.symm).imp fun _ q => by rw [q, ← e]; rfl) fun e => (h2 e.symm).imp fun _ q => by rw [q, ← e]; rfl
/-- and, or, not as values of bools -/
theorem e_andV (h : DF K ta Γ 0 (· = .bl b)) (h1 : b = true → DF K tb Γ 0 (· = .bl c)) : DF K (tAndV ta tb) Γ 0 (· = .bl (b && c)) := by
  intro m B H σ le sg Q k
  refine h m B H σ le sg _ fun v B1 H1 x g1 le1 hi p => ?_
  subst p
  cases hi
  refine ⟨b, rfl, ?_⟩
  cases b with
  | true => exact iteT (h1 rfl m B1 H1 σ le1 (sg.go g1) _ fun v B2 H2 d g2 le2 hi p => k v B2 H2 d (g1.trans g2) le2 hi p)
  | false => exact iteF (k _ B1 H1 _ g1 le1 (.bl _) rfl)
theorem e_orV (h : DF K ta Γ 0 (· = .bl b)) (h1 : b = false → DF K tb Γ 0 (· = .bl c)) : DF K (tOrV ta tb) Γ 0 (· = .bl (b || c)) := by
  intro m B H σ le sg Q k
  refine h m B H σ le sg _ fun v B1 H1 x g1 le1 hi p => ?_
  subst p
  cases hi
  refine ⟨b, rfl, ?_⟩
  cases b with
  | false => exact iteF (h1 rfl m B1 H1 σ le1 (sg.go g1) _ fun v B2 H2 d g2 le2 hi p => k v B2 H2 d (g1.trans g2) le2 hi p)
  | true => exact iteT (k _ B1 H1 _ g1 le1 (.bl _) rfl)
theorem e_notV (h : DF K ta Γ 0 (· = .bl b)) : DF K (tNotV ta) Γ 0 (· = .bl (!b)) := by
  intro m B H σ le sg Q k
  refine h m B H σ le sg _ fun v B1 H1 x g1 le1 hi p => ?_
  subst p
  cases hi
  exact ⟨b, rfl, k _ B1 H1 _ g1 le1 (.bl _) rfl⟩
/-! ### lists of arguments, displays -/
variable {tr : TA} {ds es : List D} {PA PB : List D → Prop}
theorem a_nil : DA K tNil Γ n (· = []) := fun m B H σ le sg Q k => k [] B H [] (Go.refl B H) (le.mono (by omega)) .nil rfl
theorem a_cons (h : DF K te Γ n1 P) (hr : DA K tr Γ n2 PA) : DA K (tCons te tr) Γ (n1 + n2) (fun l => ∃ d ds, l = d :: ds ∧ P d ∧ PA ds) := by
  intro m B H σ le sg Q k
  refine h (m + n2) B H σ (le.mono (by omega)) sg _ fun v B1 H1 x g1 le1 hi p => hr m B1 H1 σ le1 (sg.go g1) _ fun vs B2 H2 ds g2 le2 hs ps => ?_
  exact k _ B2 H2 (x :: ds) (g1.trans g2) le2 (.cons (hi.mono g2.b) hs) ⟨x, ds, rfl, p, ps⟩
theorem ea_cons (h : DF K te Γ 0 (· = d)) (hr : DA K tr Γ 0 (· = ds)) : DA K (tCons te tr) Γ 0 (· = d :: ds) :=
  (a_cons (n1 := 0) (n2 := 0) h hr).imp fun _ ⟨_, _, e, p, q⟩ => by rw [e, p, q]
theorem f_tup (h : DA K tr Γ n PA) (hl : ∀ ds, PA ds → ds.length ≤ 1000) : DF K (tTup tr) Γ n (fun d => ∃ ds, d = .tup ds ∧ PA ds) := by
  intro m B H σ le sg Q k
  refine h m B H σ le sg _ fun vs B1 H1 ds g1 le1 hs p => ⟨by rw [hs.length, sizeLine_eq]; have := hl ds p; omega, fun a ha => ?_⟩
  obtain ⟨B', g, le2, hi⟩ := new_tup le1 ha hs
  exact k _ _ _ _ (g1.trans g) le2 hi ⟨ds, rfl, p⟩
theorem e_tup (h : DA K tr Γ n (· = ds)) (hl : ds.length ≤ 1000 := by decide) : DF K (tTup tr) Γ n (· = .tup ds) :=
  (f_tup h fun _ e => by rw [e]; exact hl).imp fun _ ⟨_, e, q⟩ => by rw [e, q]
theorem w_lst (h : DA K tr Γ n PA) (hl : ∀ ds, PA ds → ds.length ≤ 1000) : DW K (tLst tr) Γ n (fun d => ∃ ds, d = .lst ds ∧ PA ds) := by
  intro m B H σ le sg Q k
  refine h m B H σ le sg _ fun vs B1 H1 ds g1 le1 hs p => ⟨by rw [hs.length, sizeLine_eq]; have := hl ds p; omega, fun a ha => ?_⟩
  obtain ⟨g, le2, ho⟩ := new_lst le1 ha hs
  exact k _ _ _ _ (g1.trans g) le2 (new_of g1 le1 ha) ho ⟨ds, rfl, p⟩
theorem ew_lst (h : DA K tr Γ n (· = ds)) (hl : ds.length ≤ 1000 := by decide) : DW K (tLst tr) Γ n (· = .lst ds) :=
  (w_lst h fun _ e => by rw [e]; exact hl).imp fun _ ⟨_, e, q⟩ => by rw [e, q]
theorem w_new : DW K tDNewK Γ n (· = .dK []) := by
  intro m B H σ le sg Q k p hp
  obtain ⟨g, le2, ho⟩ := new_dK (le.mono (by omega) : Le m B H) hp (.nil : IsK K B [] [])
  exact k _ _ _ _ g le2 hp ho rfl
/-! ### attributes -/
theorem f_fld {C : Addr} {f : Str} (hc : Cls K C) (hn : NoAttr K C f) (h : DR K te Γ n P1) (hf : ∀ x, P1 x → ∃ fs d, x = .ins C fs ∧ fs.lookup f = some d ∧ P d) : DF K (tFld K te f) Γ n P := by
  intro m B H σ le sg Q k
  refine h m B H σ le sg _ fun v B1 H1 x g1 le1 r1 p1 => ?_
  obtain ⟨fs, d, rfl, hl, p⟩ := hf x p1
  obtain ⟨a, dx, vs, rfl, e, r⟩ := rv_ins r1 le1
  obtain ⟨w, hw, hi⟩ := r.lookup hl
  exact ⟨a, C, dx, vs, w, rfl, e, hc, hn, hw, k w B1 H1 d g1 le1 hi p⟩
theorem e_fld {C : Addr} {fs : List (Str × D)} {f : Str} (hc : Cls K C) (hn : NoAttr K C f) (h : DR K te Γ n (· = .ins C fs)) (hl : fs.lookup f = some d) : DF K (tFld K te f) Γ n (· = d) :=
  f_fld hc hn h fun _ e => ⟨fs, d, e, hl, rfl⟩
/-! ### contracts -/
/-- a def's contract: C ds P says that of the data ds something is given back of which P; n draws at most -/
abbrev Ct := List D → (D → Prop) → Prop
def spF (K : PySem.W.Frag) (n : Nat) (C : Ct) : Sp := fun vs H Q _ => ∃ m B ds P, Le (m + n) B H ∧ IsL K B vs ds ∧ C ds P ∧ ∀ v B' H' d, Go B H B' H' → Le m B' H' → Is K B' v d → P d → Q v H'
/-- the same where a new thing is given back -/
def spW (K : PySem.W.Frag) (n : Nat) (C : Ct) : Sp := fun vs H Q _ => ∃ m B ds P, Le (m + n) B H ∧ IsL K B vs ds ∧ C ds P ∧ ∀ a B' H' d, Go B H B' H' → Le m B' H' → H a = none → Own K B' H' a d → P d → Q (.ref a) H'
variable {C : Ct} {dvs : List V} {dds : List D} {E : XK}
theorem f_call (h : DA K tr Γ n1 PA) (hd : ∀ B, IsL K B dvs dds) (hc : ∀ ds, PA ds → C (ds ++ dds) P) : DF K (tCall (spF K n C) dvs E tr) Γ (n1 + n) P := by
  intro m B H σ le sg Q k
  refine h (m + n) B H σ (le.mono (by omega)) sg _ fun vs B1 H1 ds g1 le1 hs p => ?_
  exact ⟨m, B1, ds ++ dds, P, le1, hs.append (hd B1), hc ds p, fun v B2 H2 d g2 le2 hi q => k v B2 H2 d (g1.trans g2) le2 hi q⟩
theorem w_call (h : DA K tr Γ n1 PA) (hd : ∀ B, IsL K B dvs dds) (hc : ∀ ds, PA ds → C (ds ++ dds) P) : DW K (tCall (spW K n C) dvs E tr) Γ (n1 + n) P := by
  intro m B H σ le sg Q k
  refine h (m + n) B H σ (le.mono (by omega)) sg _ fun vs B1 H1 ds g1 le1 hs p => ?_
  exact ⟨m, B1, ds ++ dds, P, le1, hs.append (hd B1), hc ds p, fun v B2 H2 d g2 le2 hn hi q => k v B2 H2 d (g1.trans g2) le2 (new_of g1 le1 hn) hi q⟩
theorem e_call (h : DA K tr Γ 0 (· = ds)) (hc : C ds P) : DF K (tCall (spF K n C) [] E tr) Γ n P :=
  (f_call (n1 := 0) (dds := []) h (fun _ => .nil) (fun _ e => by rw [e, List.append_nil]; exact hc)).le (by omega)
theorem ew_call (h : DA K tr Γ 0 (· = ds)) (hc : C ds P) : DW K (tCall (spW K n C) [] E tr) Γ n P :=
  (w_call (n1 := 0) (dds := []) h (fun _ => .nil) (fun _ e => by rw [e, List.append_nil]; exact hc)).le (by omega)
/-- o.m(..) -/
theorem f_meth {A : Addr} {m' : Str} (ho : DF K te Γ n1 P1) (h : DA K tr Γ n2 PA) (hm : ∀ x, P1 x → ∃ fs, x = .ins A fs ∧ fs.lookup m' = none) (hc : ∀ x ds, P1 x → PA ds → C (x :: ds) P) : DF K (tMeth A m' (spF K n C) [] E te tr) Γ (n1 + n2 + n) P := by
  intro m B H σ le sg Q k
  refine ho (m + n2 + n) B H σ (le.mono (by omega)) sg _ fun v B1 H1 x g1 le1 hi p1 => ?_
  obtain ⟨fs, rfl, hl⟩ := hm x p1
  obtain ⟨a, dx, vs, rfl, e, r⟩ := is_ins hi le1
  refine ⟨a, dx, vs, rfl, e, r.lookup_none hl, h (m + n) B1 H1 σ (le1.mono (by omega)) (sg.go g1) _ fun ws B2 H2 ds g2 le2 hs p2 => ?_⟩
  exact ⟨m, B2, _ :: ds, P, le2, by rw [List.append_nil]; exact .cons (hi.mono g2.b) hs, hc _ ds p1 p2, fun v B3 H3 d g3 le3 hi q => k v B3 H3 d ((g1.trans g2).trans g3) le3 hi q⟩
theorem e_meth {A : Addr} {m' : Str} {fs : List (Str × D)} (ho : DF K te Γ 0 (· = .ins A fs)) (h : DA K tr Γ 0 (· = ds)) (hl : fs.lookup m' = none) (hc : C (.ins A fs :: ds) P) : DF K (tMeth A m' (spF K n C) [] E te tr) Γ n P :=
  (f_meth (n1 := 0) (n2 := 0) ho h (fun _ e => ⟨fs, e, hl⟩) fun _ _ e1 e2 => by rw [e1, e2]; exact hc).le (by omega)
/-- o.f, a property -/
theorem f_prop {A : Addr} (ho : DF K te Γ n1 P1) (hm : ∀ x, P1 x → ∃ fs, x = .ins A fs) (hc : ∀ x, P1 x → C [x] P) : DF K (tProp A (spF K n C) [] E te) Γ (n1 + n) P := by
  intro m B H σ le sg Q k
  refine ho (m + n) B H σ (le.mono (by omega)) sg _ fun v B1 H1 x g1 le1 hi p1 => ?_
  obtain ⟨fs, rfl⟩ := hm x p1
  obtain ⟨a, dx, vs, rfl, e, r⟩ := is_ins hi le1
  exact ⟨a, dx, vs, rfl, e, m, B1, [_], P, le1, .one hi, hc _ p1, fun v B2 H2 d g2 le2 hi q => k v B2 H2 d (g1.trans g2) le2 hi q⟩
theorem e_prop {A : Addr} {fs : List (Str × D)} (ho : DF K te Γ 0 (· = .ins A fs)) (hc : C [.ins A fs] P) : DF K (tProp A (spF K n C) [] E te) Γ n P :=
  (f_prop (n1 := 0) ho (fun _ e => ⟨fs, e⟩) fun _ e => by rw [e]; exact hc).le (by omega)
/-- o[i] of an own class -/
theorem f_ixO {r : R2} {A : Addr} (ha : DF K ta Γ n1 P1) (hb : DF K tb Γ n2 P2) (hm : ∀ x, P1 x → ∃ fs, x = .ins A fs) (hc : ∀ x y, P1 x → P2 y → C [x, y] P) : DF K (tOp (fun x y H Q => r x y H Q ∨ rIxO A (spF K n C) x y H Q) ta tb) Γ (n1 + n2 + n) P := by
  intro m B H σ le sg Q k
  refine ha (m + n2 + n) B H σ (le.mono (by omega)) sg _ fun v B1 H1 x g1 le1 r1 p1 => hb (m + n) B1 H1 σ (le1.mono (by omega)) (sg.go g1) _ fun w B2 H2 y g2 le2 r2 p2 => ?_
  obtain ⟨fs, rfl⟩ := hm x p1
  obtain ⟨a, dx, vs, rfl, e, _⟩ := is_ins (r1.mono g2.b) le2
  exact .inr ⟨a, dx, vs, rfl, e, m, B2, [_, y], P, le2, .cons (r1.mono g2.b) (.one r2), hc _ _ p1 p2, fun v B3 H3 d g3 le3 hi q => k v B3 H3 d ((g1.trans g2).trans g3) le3 hi q⟩
theorem e_ixO {r : R2} {A : Addr} {fs : List (Str × D)} (ha : DF K ta Γ 0 (· = .ins A fs)) (hb : DF K tb Γ 0 (· = y)) (hc : C [.ins A fs, y] P) : DF K (tOp (fun x y H Q => r x y H Q ∨ rIxO A (spF K n C) x y H Q) ta tb) Γ n P :=
  (f_ixO (n1 := 0) (n2 := 0) ha hb (fun _ e => ⟨fs, e⟩) fun _ _ e1 e2 => by rw [e1, e2]; exact hc).le (by omega)
theorem ok_left {r r' : R2} {f : D → D → Option D} (ok : ROk K r f) : ROk K (fun x y H Q => r x y H Q ∨ r' x y H Q) f := fun m B H x y d e z le rx ry hf Q k => .inl (ok m B H x y d e z le rx ry hf Q k)
end
end DL
set_option Elab.async false
set_option linter.all false
set_option maxRecDepth 100000
set_option maxHeartbeats 2000000
/-! DL, part f: built-ins, slices, comprehensions, what loops walk. -/
namespace DL
open PySem L2
section
variable [Wld] {K : PySem.W.Frag} {m n n1 n2 : Nat} {d x y z : D} {Γ : Gm} {ta tb te tc : TE} {t u : TT} {P P1 P2 P3 : D → Prop} {b c : Bool}
/-! ### built-ins of one argument -/
def COk (K : PySem.W.Frag) (r : List V → Hp → VK → Prop) (f : D → Option D) : Prop := ∀ m B H x d z, Le m B H → Rv K B H x d → f d = some z →
  ∀ Q : VK, (∀ v B' H', Go B H B' H' → Le m B' H' → Is K B' v z → Q v H') → r [x] H Q
def COw (K : PySem.W.Frag) (r : List V → Hp → VK → Prop) (f : D → Option D) : Prop := ∀ m B H x d z, Le m B H → Rv K B H x d → f d = some z →
  ∀ Q : VK, (∀ a B' H', Go B H B' H' → Le m B' H' → H a = none → Own K B' H' a z → Q (.ref a) H') → r [x] H Q
theorem COw.f {r : List V → Hp → VK → Prop} {f : D → Option D} (h : COw K r f) : COk K r f := by
  intro m B H x d z le rx hf Q k
  refine h m B H x d z le rx hf Q fun a B' H' g le' hn ho => ?_
  obtain ⟨o, ea, le2, gw, hi⟩ := ho.froze le'
  exact k _ _ _ (frz_go ho.none hn g) le2 hi
theorem f_cb {r : List V → Hp → VK → Prop} {f : D → Option D} (ok : COk K r f) (ha : DR K ta Γ n P1) (h : ∀ x, P1 x → ∃ z, f x = some z ∧ P z) : DF K (tCB r (tCons ta tNil)) Γ n P := by
  intro m B H σ le sg Q k
  refine ha m B H σ le sg _ fun v B1 H1 x g1 le1 r1 p1 => ?_
  obtain ⟨z, hz, pz⟩ := h x p1
  exact ok m B1 H1 v x z le1 r1 hz Q fun v B2 H2 g2 le2 hi => k v B2 H2 z (g1.trans g2) le2 hi pz
theorem w_cb {r : List V → Hp → VK → Prop} {f : D → Option D} (ok : COw K r f) (ha : DR K ta Γ n P1) (h : ∀ x, P1 x → ∃ z, f x = some z ∧ P z) : DW K (tCB r (tCons ta tNil)) Γ n P := by
  intro m B H σ le sg Q k
  refine ha m B H σ le sg _ fun v B1 H1 x g1 le1 r1 p1 => ?_
  obtain ⟨z, hz, pz⟩ := h x p1
  exact ok m B1 H1 v x z le1 r1 hz Q fun a B2 H2 g2 le2 hn hi => k a B2 H2 z (g1.trans g2) le2 (new_of g1 le1 hn) hi pz
theorem e_cb {r : List V → Hp → VK → Prop} {f : D → Option D} (ok : COk K r f) (ha : DR K ta Γ n (· = x)) (h : f x = some z) : DF K (tCB r (tCons ta tNil)) Γ n (· = z) := f_cb ok ha fun _ e => ⟨z, by rw [e]; exact h, rfl⟩
theorem ew_cb {r : List V → Hp → VK → Prop} {f : D → Option D} (ok : COw K r f) (ha : DR K ta Γ n (· = x)) (h : f x = some z) : DW K (tCB r (tCons ta tNil)) Γ n (· = z) := w_cb ok ha fun _ e => ⟨z, by rw [e]; exact h, rfl⟩
def lenF : D → Option D
  | .lst xs => some (.int xs.length)
  | .tup xs => some (.int xs.length)
  | .dK xs => some (.int xs.length)
  | .dN xs => some (.int xs.length)
  | .str s => if s.length ≤ sizeLine then some (.int s.length) else none
  | _ => none
theorem ok_len : COk K (rLenX K) lenF := by
  intro m B H x d z le rx hf Q k
  cases d <;> try (cases hf; done)
  · unfold lenF at hf
    dsimp only at hf
    split at hf
    · rename_i s w; cases hf
      exact .inl (.inl ⟨_, s.length, rfl, by rw [rv_scal rx rfl]; exact ⟨w, rfl⟩, k _ B H (Go.refl B H) le (.int _)⟩)
    · cases hf
  · obtain ⟨a, vs, rfl, h1, r1⟩ := rv_lst rx le
    cases hf
    exact .inl (.inl ⟨_, _, rfl, .inl ⟨vs, .inl (.inl h1), r1.length.symm⟩, k _ B H (Go.refl B H) le (.int _)⟩)
  · obtain ⟨a, vs, rfl, h1, r1, _⟩ := rv_tup rx le
    cases hf
    exact .inl (.inl ⟨_, _, rfl, .inr ⟨vs, h1, r1.length.symm⟩, k _ B H (Go.refl B H) le (.int _)⟩)
  · obtain ⟨a, vs, rfl, h1, r1⟩ := rv_dK rx le
    cases hf
    refine .inl (.inr ⟨a, vs, rfl, h1, ?_⟩)
    rw [r1.length]
    exact k _ B H (Go.refl B H) le (.int _)
  · obtain ⟨a, vs, rfl, h1, r1⟩ := rv_dN rx le
    cases hf
    refine .inr ⟨a, vs, rfl, h1, ?_⟩
    rw [r1.length]
    exact k _ B H (Go.refl B H) le (.int _)
def kD : Key → D
  | .inl i => .int i
  | .inr s => .str s
theorem is_kD {B : Kn} : ∀ k : Key, Is K B (kV k) (kD k)
  | .inl i => .int i
  | .inr s => .str s
theorem IsK.keysL {B : Kn} : ∀ {vs : List (Key × V)} {ds : List (Key × D)}, IsK K B vs ds → IsL K B (vs.map fun kv => kV kv.1) (ds.map fun kv => kD kv.1)
  | _, _, .nil => .nil
  | _, _, .cons _ r => .cons (is_kD _) (IsK.keysL r)
def listF : D → Option D
  | .lst xs => some (.lst xs)
  | .tup xs => some (.lst xs)
  | .dK kvs => some (.lst (kvs.map fun kv => kD kv.1))
  | .dN kvs => some (.lst (kvs.map fun kv => nkD kv.1))
  | _ => none
theorem ok_list : COw K (rListX K) listF := by
  intro m B H x d z le rx hf Q k
  cases d <;> try (cases hf; done)
  · obtain ⟨a, vs, rfl, h1, r1⟩ := rv_lst rx le
    cases hf
    refine .inl ⟨a, vs, rfl, .inl (.inl (.inl h1)), fun p hp => ?_⟩
    obtain ⟨g, le2, ho⟩ := new_lst le hp r1
    exact k _ _ _ g le2 hp ho
  · obtain ⟨a, vs, rfl, h1, r1, _⟩ := rv_tup rx le
    cases hf
    refine .inl ⟨a, vs, rfl, .inr h1, fun p hp => ?_⟩
    obtain ⟨g, le2, ho⟩ := new_lst le hp r1
    exact k _ _ _ g le2 hp ho
  · obtain ⟨a, vs, rfl, h1, r1⟩ := rv_dK rx le
    cases hf
    refine .inr (.inl ⟨a, vs, rfl, h1, fun p hp => ?_⟩)
    obtain ⟨g, le2, ho⟩ := new_lst le hp r1.keysL
    exact k _ _ _ g le2 hp ho
  · obtain ⟨a, vs, rfl, h1, r1⟩ := rv_dN rx le
    cases hf
    refine .inr (.inr ⟨a, vs, rfl, h1, fun p hp => ?_⟩)
    obtain ⟨g, le2, ho⟩ := new_lst le hp r1.keysL
    exact k _ _ _ g le2 hp ho
def tupF : D → Option D
  | .lst xs => some (.tup xs)
  | .tup xs => some (.tup xs)
  | .dK kvs => some (.tup (kvs.map fun kv => kD kv.1))
  | _ => none
theorem ok_tup : COk K (rTupX K) tupF := by
  intro m B H x d z le rx hf Q k
  cases d <;> try (cases hf; done)
  · obtain ⟨a, vs, rfl, h1, r1⟩ := rv_lst rx le
    cases hf
    refine .inl ⟨a, vs, rfl, .inl ⟨.inl (.inl h1), fun p hp => ?_⟩⟩
    obtain ⟨B', g, le2, hi⟩ := new_tup le hp r1
    exact k _ _ _ g le2 hi
  · obtain ⟨a, vs, rfl, h1, r1, t1⟩ := rv_tup rx le
    cases hf
    exact .inl ⟨a, vs, rfl, .inr ⟨h1, k _ B H (Go.refl B H) le (.tup t1 r1)⟩⟩
  · obtain ⟨a, vs, rfl, h1, r1⟩ := rv_dK rx le
    cases hf
    refine .inr ⟨a, vs, rfl, h1, fun p hp => ?_⟩
    obtain ⟨B', g, le2, hi⟩ := new_tup le hp r1.keysL
    exact k _ _ _ g le2 hi
def strF : D → Option D
  | .str s => some (.str s)
  | _ => none
theorem ok_str : COk K rStrX strF := by
  intro m B H x d z le rx hf Q k
  cases d <;> try (cases hf; done)
  cases hf
  exact ⟨_, by rw [rv_scal rx rfl]; rfl, k _ B H (Go.refl B H) le (.str _)⟩
def intF : D → Option D
  | .int s => some (.int s)
  | .bl b => some (.int (if b then 1 else 0))
  | _ => none
theorem ok_int : COk K rIntX intF := by
  intro m B H x d z le rx hf Q k
  cases d <;> try (cases hf; done)
  · cases hf; exact .inr ⟨_, by rw [rv_scal rx rfl]; rfl, k _ B H (Go.refl B H) le (.int _)⟩
  · cases hf; exact .inl ⟨_, by rw [rv_scal rx rfl]; rfl, k _ B H (Go.refl B H) le (.int _)⟩
end
/-! ### texts in order -/
def leS (a b : Str) : Bool := !decide (b.cps.toList < a.cps.toList)
def sortS (xs : List Str) : List Str := xs.mergeSort leS
theorem leS_total (a b : Str) : (leS a b || leS b a) = true := by
  unfold leS
  by_cases h : b.cps.toList < a.cps.toList
  · have h2 : ¬ a.cps.toList < b.cps.toList := fun q => List.lt_irrefl _ (List.lt_trans h q)
    simp [h, h2]
  · simp [h]
theorem leS_trans (a b c : Str) (h1 : leS a b = true) (h2 : leS b c = true) : leS a c = true := by
  unfold leS at *
  simp only [Bool.not_eq_true', decide_eq_false_iff_not] at *
  have h1 : a.cps.toList ≤ b.cps.toList := h1
  have h2 : b.cps.toList ≤ c.cps.toList := h2
  exact (List.le_trans h1 h2)
theorem str_ext {a b : Str} (h : a.cps.toList = b.cps.toList) : a = b := by
  cases a; cases b; congr; exact Array.toList_inj.mp h
theorem leS_anti (a b : Str) (h1 : leS a b = true) (h2 : leS b a = true) : a = b := by
  unfold leS at *
  simp only [Bool.not_eq_true', decide_eq_false_iff_not] at *
  have h1 : a.cps.toList ≤ b.cps.toList := h1
  have h2 : b.cps.toList ≤ a.cps.toList := h2
  exact str_ext (List.le_antisymm h1 h2)
theorem perm_sorted {α : Type} {r : α → α → Prop} (anti : ∀ a b, r a b → r b a → a = b) : ∀ {l l' : List α}, l.Perm l' → l.Pairwise r → l'.Pairwise r → l = l'
  | [], l', p, _, _ => (List.nil_perm.mp p).symm
  | a :: l, l', p, h1, h2 => by
    cases l' with
    | nil => exact absurd p.symm (by simp)
    | cons b l' =>
      have ha : a ∈ b :: l' := p.mem_iff.mp (List.mem_cons_self ..)
      have hb : b ∈ a :: l := p.mem_iff.mpr (List.mem_cons_self ..)
      have e : a = b := by
        rcases List.mem_cons.mp ha with e | ha
        · exact e
        · rcases List.mem_cons.mp hb with e | hb
          · exact e.symm
          · exact anti a b (List.rel_of_pairwise_cons h1 hb) (List.rel_of_pairwise_cons h2 ha)
      subst e
      rw [perm_sorted anti (List.perm_cons _ |>.mp p) (List.Pairwise.of_cons h1) (List.Pairwise.of_cons h2)]
theorem sortS_perm (xs : List Str) : (sortS xs).Perm xs := List.mergeSort_perm xs leS
theorem sortS_sorted (xs : List Str) : (sortS xs).Pairwise (fun a b => leS a b = true) := List.pairwise_mergeSort leS_trans leS_total xs
theorem rising_pairwise : ∀ (p : Str) (l : List Str), PyProof.Rows.risingS p l = true → (p :: l).Pairwise (fun a b => leS a b = true)
  | p, [], _ => List.pairwise_singleton _ _
  | p, x :: r, h => by
    unfold PyProof.Rows.risingS at h
    have h := Bool.and_eq_true_iff.mp h
    have ih := rising_pairwise x r h.2
    have h1 : leS p x = true := by
      have := h.1
      rw [PyProof.Rows.ltCps_eq] at this
      exact this
    refine List.pairwise_cons.mpr ⟨fun y hy => ?_, ih⟩
    rcases List.mem_cons.mp hy with e | hy
    · rw [e]; exact h1
    · exact leS_trans _ _ _ h1 (List.rel_of_pairwise_cons ih hy)
theorem sorted_is {xs ys : List Str} (p : ys.Perm xs) (h : PyProof.Rows.sortedS ys = true) : ys = sortS xs := by
  refine perm_sorted (r := fun a b => leS a b = true) leS_anti (p.trans (sortS_perm xs).symm) ?_ (sortS_sorted xs)
  cases ys with
  | nil => exact .nil
  | cons x r => exact rising_pairwise x r h
theorem sortS_of_perm {xs ys : List Str} (p : xs.Perm ys) : sortS xs = sortS ys :=
  perm_sorted (r := fun a b => leS a b = true) leS_anti ((sortS_perm xs).trans (p.trans (sortS_perm ys).symm)) (sortS_sorted xs) (sortS_sorted ys)
theorem sortS_len (xs : List Str) : (sortS xs).length = xs.length := (sortS_perm xs).length_eq
theorem sortS_mem {xs : List Str} {a : Str} : a ∈ sortS xs ↔ a ∈ xs := (sortS_perm xs).mem_iff
section
variable [Wld] {K : PySem.W.Frag} {m n n1 n2 : Nat} {d x y z : D} {Γ : Gm} {ta tb te tc : TE} {t u : TT} {P P1 P2 P3 : D → Prop} {b c : Bool}
theorem w_sorted (ha : DR K ta Γ n P1) (h : ∀ x, P1 x → ∃ ss : List Str, x = .lst (ss.map .str) ∧ ss.length < 64 ∧ P (.lst ((sortS ss).map .str))) : DW K (tCB (rSortX K) (tCons ta tNil)) Γ n P := by
  intro m B H σ le sg Q k
  refine ha m B H σ le sg _ fun v B1 H1 x g1 le1 r1 p1 => ?_
  obtain ⟨ss, rfl, hl, p⟩ := h x p1
  obtain ⟨a, vs, rfl, h1, r⟩ := rv_lst r1 le1
  have e := r.strs
  subst e
  refine .inl ⟨a, ss, rfl, .inl (.inl h1), hl, fun ys q hp hs hq => ?_⟩
  obtain rfl := sorted_is hp hs
  obtain ⟨g, le2, ho⟩ := new_lst le1 hq (IsL.ofStrs (K := K) (B := B1) (sortS ss))
  exact k _ _ _ _ (g1.trans g) le2 (new_of g1 le1 hq) ho p
theorem ew_sorted {ss : List Str} (ha : DR K ta Γ n (· = .lst (ss.map .str))) (hl : ss.length < 64) : DW K (tCB (rSortX K) (tCons ta tNil)) Γ n (· = .lst ((sortS ss).map .str)) := w_sorted ha fun _ e => ⟨ss, e, hl, rfl⟩
/-- sorted of no ints -/
theorem ew_sorted0 (ha : DR K ta Γ n (· = .lst [])) : DW K (tCB (rSortX K) (tCons ta tNil)) Γ n (· = .lst []) := by
  have h := ew_sorted (ss := []) ha (by decide)
  exact h.cast (by unfold sortS; simp)
theorem intsort {xs ys : List Int} (p : ys.Perm xs) (h : ys.Pairwise (· ≤ ·)) : ys = xs.mergeSort (fun a b => decide (a ≤ b)) := by
  refine perm_sorted (r := fun a b => a ≤ b) (fun a b h1 h2 => Int.le_antisymm h1 h2) (p.trans (List.mergeSort_perm xs _).symm) h ?_
  have := List.pairwise_mergeSort (le := fun a b => decide (a ≤ b)) (fun a b c h1 h2 => by simp only [decide_eq_true_eq] at *; omega) (fun a b => by simp only [Bool.or_eq_true, decide_eq_true_eq]; omega) xs
  exact this.imp fun h => by simpa using h
def sortI (xs : List Int) : List Int := xs.mergeSort (fun a b => decide (a ≤ b))
theorem ew_sortedI {ss : List Int} (ha : DR K ta Γ n (· = .lst (ss.map .int))) (hl : ss.length < 64) : DW K (tCB (rSortX K) (tCons ta tNil)) Γ n (· = .lst ((sortI ss).map .int)) := by
  intro m B H σ le sg Q k
  refine ha m B H σ le sg _ fun v B1 H1 x g1 le1 r1 p1 => ?_
  subst p1
  obtain ⟨a, vs, rfl, h1, r⟩ := rv_lst r1 le1
  have e := r.ints
  subst e
  refine .inr ⟨a, ss, rfl, .inl (.inl h1), hl, fun ys q hp hs hq => ?_⟩
  obtain rfl := intsort hp hs
  obtain ⟨g, le2, ho⟩ := new_lst le1 hq (IsL.ofInts (K := K) (B := B1) (sortI ss))
  exact k _ _ _ _ (g1.trans g) le2 (new_of g1 le1 hq) ho rfl
/-! ### two numbers -/
theorem f_cb2 {r : List V → Hp → VK → Prop} {g : Int → Int → Int} (ok : ∀ i j H Q, Q (.int (g i j)) H → r [.int i, .int j] H Q) (ha : DR K ta Γ n1 P1) (hb : DR K tb Γ n2 P2) (h : ∀ x y, P1 x → P2 y → ∃ i j, x = .int i ∧ y = .int j ∧ P (.int (g i j))) :
    DF K (tCB r (tCons ta (tCons tb tNil))) Γ (n1 + n2) P := by
  intro m B H σ le sg Q k
  refine ha (m + n2) B H σ (le.mono (by omega)) sg _ fun v B1 H1 x g1 le1 r1 p1 => hb m B1 H1 σ le1 (sg.go g1) _ fun w B2 H2 y g2 le2 r2 p2 => ?_
  obtain ⟨i, j, rfl, rfl, p⟩ := h x y p1 p2
  rw [rv_scal r1 rfl, rv_scal r2 rfl]
  exact ok i j H2 Q (k _ B2 H2 _ (g1.trans g2) le2 (.int _) p)
theorem ok_max : ∀ i j H Q, Q (.int (if j > i then j else i)) H → rMax2 [.int i, .int j] H Q := fun i j _ _ q => ⟨i, j, rfl, q⟩
theorem ok_min : ∀ i j H Q, Q (.int (if j < i then j else i)) H → rMin2 [.int i, .int j] H Q := fun i j _ _ q => ⟨i, j, rfl, q⟩
theorem e_cb2 {r : List V → Hp → VK → Prop} {g : Int → Int → Int} (ok : ∀ i j H Q, Q (.int (g i j)) H → r [.int i, .int j] H Q) {i j : Int} (ha : DR K ta Γ 0 (· = .int i)) (hb : DR K tb Γ 0 (· = .int j)) :
    DF K (tCB r (tCons ta (tCons tb tNil))) Γ 0 (· = .int (g i j)) := f_cb2 (n1 := 0) (n2 := 0) ok ha hb fun _ _ e1 e2 => ⟨i, j, e1, e2, rfl⟩
/-! ### isinstance -/
/-- what of the text an own class must have -/
structure ClsI (K : PySem.W.Frag) (C : Addr) : Prop where
  cl : Cls K C
  ha : PySem.W.findIn K (.ref C) "__class__" = some (some (.builtin "object.__class__"))
  hn : PySem.W.specialIn K (.builtin "object.__class__") "__get__" = some (some (.builtin "getset_descriptor.__get__"))
  htk : PySem.W.takesIn K (.builtin "object.__class__") = some true
  hm : PySem.W.mroIn K C (.type "object") = some true
inductive Ty (K : PySem.W.Frag) : D → Value → Prop
  | non : Ty K .non (.type "NoneType")
  | bl (b : Bool) : Ty K (.bl b) (.type "bool")
  | int (i : Int) : Ty K (.int i) (.type "int")
  | str (s : Str) : Ty K (.str s) (.type "str")
  | lst (xs : List D) : Ty K (.lst xs) (.type "list")
  | tup (xs : List D) : Ty K (.tup xs) (.type "tuple")
  | dK (xs : List (Key × D)) : Ty K (.dK xs) (.type "dict")
  | ins {C : Addr} (fs : List (Str × D)) (c : ClsI K C) : Ty K (.ins C fs) (.ref C)
theorem Ty.tx {B : Kn} {H : Hp} {v : V} {t : Value} (ty : Ty K d t) (le : Le m B H) (r : Rv K B H v d) : TyX K H v t := by
  cases ty with
  | non => rw [rv_scal r rfl]; exact .base .non
  | bl b => rw [rv_scal r rfl]; exact .base (.bl b)
  | int i => rw [rv_scal r rfl]; exact .base (.int i)
  | str s => rw [rv_scal r rfl]; exact .base (.str s)
  | lst xs => obtain ⟨a, vs, rfl, h1, _⟩ := rv_lst r le; exact .base (.lst h1)
  | tup xs =>
    obtain ⟨a, vs, rfl, h1, _, _⟩ := rv_tup r le
    rcases h1 with (h1 | ⟨o, h1⟩) | ⟨o, its, n, h1, h2, _⟩
    · exact .base (.tup h1)
    · exact .fTuple h1
    · exact .kTuple h1 h2
  | dK xs =>
    obtain ⟨a, vs, rfl, h1, _⟩ := rv_dK r le
    rcases h1 with h1 | ⟨o, h1⟩
    · exact .base (.dK h1)
    · exact .fDict h1
  | ins fs c => obtain ⟨a, dx, vs, rfl, h1, _⟩ := rv_ins r le; exact .base (.ins h1 c.cl c.ha c.hn c.htk c.hm)
theorem f_isi {T : String} (ha : DR K ta Γ n P1) (h : ∀ x, P1 x → ∃ t b, Ty K x t ∧ PySem.W.kitOne K t (.type T) = some b ∧ P (.bl b)) : DF K (tCB (rIsiX K) (tCons ta (tCons (tC (.ty T)) tNil))) Γ n P := by
  intro m B H σ le sg Q k
  refine ha m B H σ le sg _ fun v B1 H1 x g1 le1 r1 p1 => ?_
  obtain ⟨t, b, ty, hk, p⟩ := h x p1
  exact .inl ⟨v, .ty T, t, .type T, b, rfl, .ty T, ty.tx le1 r1, hk, k _ B1 H1 _ g1 le1 (.bl _) p⟩
theorem f_isiC {C : Addr} (ha : DR K ta Γ n P1) (h : ∀ x, P1 x → ∃ t b, Ty K x t ∧ PySem.W.kitOne K t (.ref C) = some b ∧ P (.bl b)) : DF K (tCB (rIsiX K) (tCons ta (tCons (tC (.ref C)) tNil))) Γ n P := by
  intro m B H σ le sg Q k
  refine ha m B H σ le sg _ fun v B1 H1 x g1 le1 r1 p1 => ?_
  obtain ⟨t, b, ty, hk, p⟩ := h x p1
  exact .inl ⟨v, .ref C, t, .ref C, b, rfl, .own C, ty.tx le1 r1, hk, k _ B1 H1 _ g1 le1 (.bl _) p⟩
theorem f_isi2 {T T' : String} (ha : DR K ta Γ n P1) (h : ∀ x, P1 x → ∃ t b, Ty K x t ∧ PySem.W.kitAny K t [.type T, .type T'] = some b ∧ P (.bl b)) : DF K (tCB (rIsiX K) (tCons ta (tCons (tTup (tCons (tC (.ty T)) (tCons (tC (.ty T')) tNil))) tNil))) Γ n P := by
  intro m B H σ le sg Q k
  refine ha m B H σ le sg _ fun v B1 H1 x g1 le1 r1 p1 => ⟨by rw [sizeLine_eq]; show 2 ≤ 16777216; decide, fun a hp => ?_⟩
  obtain ⟨t, b, ty, hk, p⟩ := h x p1
  obtain ⟨g, le2, _⟩ := go_new (o := .tup [.ty T, .ty T']) le1 hp
  exact .inr ⟨v, a, _, t, _, b, rfl, upd_same, .cons (.ty T) (.cons (.ty T') .nil), ty.tx le2 (r1.go g), hk, k _ B1 _ _ (g1.trans g) le2 (.bl _) p⟩
def isTS : D → Bool
  | .str _ => true | _ => false
def isTI : D → Bool
  | .int _ | .bl _ => true | _ => false
def isTB : D → Bool
  | .bl _ => true | _ => false
def isTL : D → Bool
  | .lst _ => true | _ => false
def isTT : D → Bool
  | .tup _ => true | _ => false
def isTD : D → Bool
  | .dK _ => true | _ => false
def tyN : D → String
  | .non => "NoneType" | .bl _ => "bool" | .int _ => "int" | .str _ => "str" | .lst _ => "list" | .tup _ => "tuple" | _ => "dict"
/-- plain kinds -/
inductive Pl : D → Prop
  | non : Pl .non | bl (b : Bool) : Pl (.bl b) | int (i : Int) : Pl (.int i) | str (s : Str) : Pl (.str s) | lst (xs : List D) : Pl (.lst xs) | tup (xs : List D) : Pl (.tup xs) | dK (xs : List (Key × D)) : Pl (.dK xs)
theorem Pl.ty {d : D} (p : Pl d) : ∃ T, Ty K d (.type T) ∧ T = tyN d := by
  cases p with
  | non => exact ⟨_, .non, rfl⟩
  | bl b => exact ⟨_, .bl b, rfl⟩
  | int b => exact ⟨_, .int b, rfl⟩
  | str b => exact ⟨_, .str b, rfl⟩
  | lst b => exact ⟨_, .lst b, rfl⟩
  | tup b => exact ⟨_, .tup b, rfl⟩
  | dK b => exact ⟨_, .dK b, rfl⟩
theorem isi_of {T : String} {f : D → Bool} (hk : ∀ d, Pl d → kitB (tyN d) T = some (f d)) (ha : DR K ta Γ n (· = x)) (p : Pl x) :
    DF K (tCB (rIsiX K) (tCons ta (tCons (tC (.ty T)) tNil))) Γ n (· = .bl (f x)) :=
  f_isi ha fun y e => by
    subst e
    obtain ⟨T', ty, e⟩ := p.ty (K := K)
    exact ⟨_, _, ty, kit_ty (by rw [e]; exact hk y p), rfl⟩
theorem isi_S (ha : DR K ta Γ n (· = x)) (p : Pl x) : DF K (tCB (rIsiX K) (tCons ta (tCons (tC (.ty "str")) tNil))) Γ n (· = .bl (isTS x)) := isi_of (fun d p => by cases p <;> (dsimp only [tyN, isTS, isTI, isTB, isTL, isTT, isTD]; decide +kernel)) ha p
theorem isi_I (ha : DR K ta Γ n (· = x)) (p : Pl x) : DF K (tCB (rIsiX K) (tCons ta (tCons (tC (.ty "int")) tNil))) Γ n (· = .bl (isTI x)) := isi_of (fun d p => by cases p <;> (dsimp only [tyN, isTS, isTI, isTB, isTL, isTT, isTD]; decide +kernel)) ha p
theorem isi_B (ha : DR K ta Γ n (· = x)) (p : Pl x) : DF K (tCB (rIsiX K) (tCons ta (tCons (tC (.ty "bool")) tNil))) Γ n (· = .bl (isTB x)) := isi_of (fun d p => by cases p <;> (dsimp only [tyN, isTS, isTI, isTB, isTL, isTT, isTD]; decide +kernel)) ha p
theorem isi_L (ha : DR K ta Γ n (· = x)) (p : Pl x) : DF K (tCB (rIsiX K) (tCons ta (tCons (tC (.ty "list")) tNil))) Γ n (· = .bl (isTL x)) := isi_of (fun d p => by cases p <;> (dsimp only [tyN, isTS, isTI, isTB, isTL, isTT, isTD]; decide +kernel)) ha p
theorem isi_T (ha : DR K ta Γ n (· = x)) (p : Pl x) : DF K (tCB (rIsiX K) (tCons ta (tCons (tC (.ty "tuple")) tNil))) Γ n (· = .bl (isTT x)) := isi_of (fun d p => by cases p <;> (dsimp only [tyN, isTS, isTI, isTB, isTL, isTT, isTD]; decide +kernel)) ha p
theorem isi_D (ha : DR K ta Γ n (· = x)) (p : Pl x) : DF K (tCB (rIsiX K) (tCons ta (tCons (tC (.ty "dict")) tNil))) Γ n (· = .bl (isTD x)) := isi_of (fun d p => by cases p <;> (dsimp only [tyN, isTS, isTI, isTB, isTL, isTT, isTD]; decide +kernel)) ha p
theorem isi_LT (ha : DR K ta Γ n (· = x)) (p : Pl x) : DF K (tCB (rIsiX K) (tCons ta (tCons (tTup (tCons (tC (.ty "list")) (tCons (tC (.ty "tuple")) tNil))) tNil))) Γ n (· = .bl (isTL x || isTT x)) :=
  f_isi2 ha fun y e => by
    subst e
    obtain ⟨T', ty, e⟩ := p.ty (K := K)
    have k1 : kitB T' "list" = some (isTL y) := by rw [e]; cases p <;> (dsimp only [tyN, isTS, isTI, isTB, isTL, isTT, isTD]; decide +kernel)
    have k2 : kitB T' "tuple" = some (isTT y) := by rw [e]; cases p <;> (dsimp only [tyN, isTS, isTI, isTB, isTL, isTT, isTD]; decide +kernel)
    refine ⟨_, _, ty, kitAny_cons (kit_ty k1) (fun h1 => kitAny_cons (r := isTL y || isTT y) (kit_ty k2) (fun h2 => by rw [h1, h2]; exact kitAny_nil) fun h2 => by rw [h2, Bool.or_true]) fun h1 => by rw [h1]; rfl, rfl⟩
end
end DL
set_option Elab.async false
set_option linter.all false
set_option maxRecDepth 100000
set_option maxHeartbeats 2000000
/-! DL, part i: enumerate and zip over lists and tuples in any mix, for the hand layer. -/
namespace DL
open PySem L2 PyProof.Rows
/-- a list (true) or a tuple (false) that is read -/
def SqS (K : PySem.W.Frag) : Bool → Hp → Addr → List V → Prop
  | true => SqL K
  | false => SqT K
def IsSrc : Bool → Heap → Addr → Array Value → Prop
  | true => fun h a its => h.IsList a its
  | false => fun h a its => h.IsTuple a its
def IterS : Bool → Heap → Addr → Addr → Nat → Prop
  | true => fun h it a i => h.IsListIter it a i
  | false => fun h it a i => h.IsTupleIter it a i
def srcObj (k : Bool) (a : Addr) : Obj := { cls := .type (if k then "list_iterator" else "tuple_iterator"), data := .fields #[.ref a, .int 0 0] }
section
variable {prog : Program} {w : World} {A : Around}
theorem src_draws (k : Bool) (hh : A.handled = none) (it a : Addr) (hne : a ≠ it) (its : Array Value) : Draws prog w A it [it, a] its.size (fun i v => its[i]? = some v) (fun i h => IterS k h it a i ∧ IsSrc k h a its) := by
  cases k with
  | true => exact Draws.list hh it a hne its
  | false => exact Draws.tuple hh it a hne its
theorem src_begins (k : Bool) (a : Addr) (its : Array Value) : Begins (.ref a) (srcObj k a) (fun h => IsSrc k h a its) := by
  cases k with
  | true => exact begins_list a its
  | false => exact begins_tuple a its
theorem src_start (k : Bool) {h : Heap} {it a : Addr} (e : h.get? it = some (srcObj k a)) : IterS k h it a 0 := by
  cases k with
  | true => exact ⟨_, e, rfl, rfl⟩
  | false => exact ⟨_, e, rfl, rfl⟩
theorem IterS.obj {k : Bool} {h : Heap} {it a : Addr} {i : Nat} (x : IterS k h it a i) : ∃ o, h.get? it = some o ∧ o.data = .fields #[.ref a, .int i 0] := by
  cases k with
  | true => obtain ⟨o, e, _, d⟩ := x; exact ⟨o, e, d⟩
  | false => obtain ⟨o, e, _, d⟩ := x; exact ⟨o, e, d⟩
theorem IterS.keep {k : Bool} {h h' : Heap} {it a : Addr} {i : Nat} (x : IterS k h it a i) (e : ∀ o, h.get? it = some o → h'.get? it = some o) : IterS k h' it a i := by
  cases k with
  | true => obtain ⟨o, e1, r⟩ := x; exact ⟨o, e o e1, r⟩
  | false => obtain ⟨o, e1, r⟩ := x; exact ⟨o, e o e1, r⟩
end
section
variable {X : Cx} {pins : List (Addr × Obj)} {σ : L2.St} {H : Hp} {s : Shared} {a : Addr} {xs ys : List V} {k : Bool}
theorem src_at (I : Inv X pins σ H s) (h : SqS X.K k H a xs) : ∃ its : List Value, Vals xs its ∧ IsSrc k s.heap a its.toArray := by
  cases k with
  | true => obtain ⟨its, r, p, _⟩ := I.list h; exact ⟨its, r, p.isList⟩
  | false => obtain ⟨its, r, p, _⟩ := I.tuple h; exact ⟨its, r, p⟩
theorem src_inj (I : Inv X pins σ H s) (h : SqS X.K k H a xs) (h' : SqS X.K k H a ys) : xs = ys := by
  cases k with
  | true => exact I.list_inj h h'
  | false => exact I.tuple_inj h h'
theorem IsSrc.lt {h : Heap} {its : Array Value} (x : IsSrc k h a its) : a < h.objs.size := by
  cases k with
  | true => obtain ⟨o, e, _⟩ := x; exact Heap.lt_size e
  | false => obtain ⟨o, e, _⟩ := x; exact Heap.lt_size e
end
/-! ### enumerate -/
def IteS (K : PySem.W.Frag) (k : Bool) (a : Addr) : It :=
  ⟨fun i H => ∃ (xs : List V) (x : V), SqS K k H a xs ∧ xs[i]? = some x, fun i H v H' => ∃ T x, v = .ref T ∧ H T = none ∧ H' = upd H T (.tup [.int (i : Nat), x]) ∧ ∀ xs, SqS K k H a xs → xs[i]? = some x, fun i H => ∃ xs : List V, SqS K k H a xs ∧ xs.length = i⟩
theorem turn_enumS {P : Program} {w : World} {K : PySem.W.Frag} {elts : List Expr} {kk : Nat} {tpos : Pos} (k : Bool) (a e it : Addr) (h1 : a ≠ it) (h2 : e ≠ it) (h3 : e ≠ a) :
    Turn P w K (.Tuple elts kk tpos) (IteS K k a) [e, it] e (fun i h => (∃ old, IsEnum h e it (0 + ((i : Nat) : Int)) old) ∧ IterS k h it a i) where
  mem := by simp
  obj := fun i h st b hb => by
    obtain ⟨⟨old, he⟩, hi⟩ := st
    obtain ⟨o, ho, hd⟩ := hi.obj
    have e' : b = e ∨ b = it := by simpa using hb
    rcases e' with z | z
    · rw [z]; exact ⟨_, he, fun v q => nomatch q⟩
    · rw [z]; exact ⟨o, ho, fun v q => by rw [hd] at q; cases q⟩
  keep := fun i h h' st kp => let ⟨⟨old, he⟩, hi⟩ := st; ⟨⟨old, kp e (by simp) _ he⟩, hi.keep fun o q => kp it (by simp) o q⟩
  item := by
    intro X hP hw hK hc i pins s σ H E I hf st hg
    subst hP hw hK
    obtain ⟨xs, x, hq, hx⟩ := hg
    obtain ⟨its, rv, src⟩ := src_at I hq
    have hlt : i < its.toArray.size := by
      have := (List.getElem?_eq_some_iff.mp hx).1
      rw [List.size_toArray, ← rv.length]; exact this
    have hh : X.A.in1.handled = none := I.ok.hd hc
    refine (GoesN.enumFrom (elts := elts) (x1 := kk) (pos := tpos) 0 (src_draws (prog := X.prog) (w := X.w) k hh it a h1 its.toArray) e h2 (by simp [h2, h3]) (by simp)).goes i s _ _ hlt ⟨st.1, st.2, src⟩ fun v h' tk hY hSt hk _ => ?_
    obtain ⟨T, t, x', rfl, hT, hx', hT2⟩ := hY
    obtain ⟨o, ho, hoc, n, hod⟩ := hT2
    have rx : RelV x x' := by
      obtain ⟨u, hu, ru⟩ := rv.get hx
      have : its[i]? = some x' := by simpa using hx'
      rw [hu] at this; cases this; exact ru
    have new : ObjOk X.prog X.w (upd H T (.tup [.int (i : Nat), x])) h' T (.tup [.int (i : Nat), x]) := by
      refine ⟨by show 2 ≤ sizeLine; decide, [.int (0 + (i : Int)) t, x'], .cons ⟨t, by rw [Int.zero_add]⟩ (.cons rx .nil), ⟨o, ho, hoc, n, hod⟩⟩
    have I1 := I.turnedNew (t' := tk) (ch := [e, it]) hk hf hT new
    refine ⟨.ref T, _, I1, rfl, ⟨T, x, rfl, I.hok.fresh hT, rfl, fun ys hy => by rw [src_inj I hy hq]; exact hx⟩, ⟨?_, hSt.2.1⟩, fun b hb => ?_⟩
    · obtain ⟨⟨old, he⟩, _⟩ := hSt
      exact ⟨old, he⟩
    · have hb' : b < s.heap.objs.size := by
        obtain ⟨⟨old, he⟩, hi⟩ := st
        obtain ⟨o, ho, _⟩ := hi.obj
        have e' : b = e ∨ b = it := by simpa using hb
        rcases e' with z | z
        · rw [z]; exact Heap.lt_size he
        · rw [z]; exact Heap.lt_size ho
      rw [upd_ne (Nat.ne_of_lt (Nat.lt_of_lt_of_le hb' hT))]
      exact (hf b hb).1
  done := by
    intro X hP hw hK hc i pins s σ H E I hf st hg
    subst hP hw hK
    obtain ⟨xs, hq, hl⟩ := hg
    obtain ⟨its, rv, src⟩ := src_at I hq
    have hh : X.A.in1.handled = none := I.ok.hd hc
    obtain ⟨⟨old, he⟩, hi⟩ := st
    have hfp : e ∉ [it, a] := by simp [h2, h3]
    have W := GoesN.enumFrom (elts := elts) (x1 := kk) (pos := tpos) 0 (src_draws (prog := X.prog) (w := X.w) k hh it a h1 its.toArray) e h2 hfp (by simp)
    have hn : its.toArray.size = i := by rw [List.size_toArray, ← rv.length]; exact hl
    rw [hn] at W
    exact W.stops s _ _ ⟨⟨old, he⟩, hi, src⟩ fun h' tk hk _ => I.turnedL (t' := tk) (ch := [e, it]) hk hf
  self := fun A i s Q E st h => by
    obtain ⟨⟨old, he⟩, _⟩ := st
    exact wpAny_pyIter_enum he h
set_option maxHeartbeats 1000000 in
theorem meets_enumerate_new1 {v : Value} {o : Obj} {Hh : Heap → Prop} (B : Begins v o Hh) :
    Meets (Builtin.«enumerate.__new__» ⟨[.type "enumerate", v], []⟩) (fun _ R s => Hh s.heap ∧
      R (.ok (.ret (.ref (s.heap.push o).objs.size))) { s with heap := (s.heap.push o).push { cls := .type "enumerate", data := .fields #[.none, .bool false, .ref s.heap.objs.size, rawInt 0, .none, .none] } }) :=
  .of_wp fun prog w A R s h => by
    obtain ⟨hp, g, d, tk, os⟩ := s; obtain ⟨h1, h⟩ := h
    have hsub := sub_enumerate
    have q1 : ∀ {A' : Around} {E : Value → Shared → Prop} {Q : Value → Shared → Prop}, Q (.ref hp.objs.size) ⟨hp.push o, g, d, tk, os⟩ → wpAny (model prog w) A' (pyIter v) Q E ⟨hp, g, d, tk, os⟩ :=
      fun q => B.iter prog w _ _ ⟨hp, g, d, tk, os⟩ _ h1 q
    wp_walk using q1
    refine wpAny_stack_any fun st => wpAny_pure ?_
    split
    · rename_i c _ _ _ _ _
      cases (c == Value.type "enumerate")
      · wp_walk using q1
        exact ⟨_, rfl, h⟩
      · wp_walk using q1
        exact ⟨_, rfl, h⟩
    · wp_walk using q1
      exact ⟨_, rfl, h⟩
section
variable {prog : Program} {w : World} {A : Around} {E : Value → Shared → Prop} {s : Shared}
theorem enum_begins1 {v : Value} {o : Obj} {Hh : Heap → Prop} {Q : Value → Shared → Prop} (B : Begins v o Hh) (h1 : Hh s.heap)
    (h : ∀ h', IsEnum h' (s.heap.objs.size + 1) s.heap.objs.size 0 .none → h'.get? s.heap.objs.size = some o → h'.objs.size = s.heap.objs.size + 2 →
      (∀ b o, s.heap.get? b = some o → h'.get? b = some o) → Q (.ref (s.heap.objs.size + 1)) { s with heap := h' }) :
    wpAny (model prog w) A (call (.type "enumerate") [v]) Q E s := by
  refine callType_new F.called_enumerate (by decide) (F.typeCall_enumerate_1 _) (F.newCall_enumerate_1 _) (fun obj => F.args_object_init_2 obj _) F.entry_enumerate_new
    (meets_enumerate_new1 B) ⟨h1, ?_⟩
  have hz : (s.heap.push o).objs.size = s.heap.objs.size + 1 := Heap.size_push ..
  show _ ∧ _
  rw [hz]
  have he : IsEnum ((s.heap.push o).push { cls := .type "enumerate", data := .fields #[.none, .bool false, .ref s.heap.objs.size, rawInt 0, .none, .none] }) (s.heap.objs.size + 1) s.heap.objs.size 0 .none := by
    have := Heap.get?_push_size (s.heap.push o) (o := { cls := .type "enumerate", data := .fields #[.none, .bool false, .ref s.heap.objs.size, rawInt 0, .none, .none] }) rfl
    rw [hz] at this; exact this
  refine ⟨⟨_, he, rfl⟩, h _ he (Heap.get?_push_of_some _ (Heap.get?_push_size _ B.free)) (by rw [Heap.size_push, hz]) fun b o x => Heap.get?_push_of_some _ (Heap.get?_push_of_some _ x)⟩
end
def iEnumS (K : PySem.W.Frag) (ta : TA) : TI := fun σ H R => ta σ H fun vs H1 => ∃ k a xs, vs = [.ref a] ∧ SqS K k H1 a xs ∧ R (IteS K k a) H1
theorem pi_enumS {X : Cx} {e : Expr} {ta : TA} {p pos tpos : Pos} {elts : List Expr} {kk : Nat} (hg : Gl X "enumerate") (hm : X.mg "enumerate" = none) (ha : PA X [e] ta) (hs : starEach [e] X.env = [(false, eval e X.env)] := by rfl) :
    PI X (.Tuple elts kk tpos) (.Call (.Name "enumerate" p) [e] [] pos) (iEnumS X.K ta) := by
  refine ⟨fun pins s σ H R I h => ?_⟩
  refine Call_ (ld_blt I hg hm boot_enumerate (PyProof.Rows.callWith_type1 (thn (ha.run pos pins s σ H _ I h) fun us s1 ⟨vs, H1, I1, r1, q1⟩ => ?_) hs rfl))
  obtain ⟨k, a, xs, ex, hq, q⟩ := q1
  subst ex
  cases r1 with
  | cons r rr =>
    cases rr
    cases r
    obtain ⟨its, rv, src⟩ := src_at I1 hq
    have hlt := src.lt
    refine enum_begins1 (src_begins k a its.toArray) src fun h' he hit hsz hk => wpAny_pyIter_enum he ?_
    have I2 : Inv X pins σ H1 { s1 with heap := h' } := I1.kept (t' := s1.toks) hk
    refine ⟨s1.heap.objs.size + 1, [s1.heap.objs.size + 1, s1.heap.objs.size], _, _, H1, rfl, I2, turn_enumS k a (s1.heap.objs.size + 1) s1.heap.objs.size (Nat.ne_of_lt hlt) (Nat.succ_ne_self _) (Nat.ne_of_gt (Nat.lt_succ_of_lt hlt)), ⟨⟨.none, he⟩, src_start k hit⟩, fun b hb => ?_, q⟩
    have e' : b = s1.heap.objs.size + 1 ∨ b = s1.heap.objs.size := by simpa using hb
    have hle : s1.heap.objs.size ≤ b := by
      rcases e' with z | z
      · rw [z]; exact Nat.le_add_right _ _
      · rw [z]; exact Nat.le_refl _
    exact I1.fpOk hle (I1.hok.fresh hle)
/-! ### zip of two -/
def ItzS (K : PySem.W.Frag) (k1 k2 : Bool) (a b : Addr) : It :=
  ⟨fun i H => ∃ (xs ys : List V) (x y : V), SqS K k1 H a xs ∧ SqS K k2 H b ys ∧ xs[i]? = some x ∧ ys[i]? = some y,
    fun i H v H' => ∃ T x y, v = .ref T ∧ H T = none ∧ H' = upd H T (.tup [x, y]) ∧ (∀ xs, SqS K k1 H a xs → xs[i]? = some x) ∧ ∀ ys, SqS K k2 H b ys → ys[i]? = some y,
    fun i H => ∃ xs ys : List V, SqS K k1 H a xs ∧ SqS K k2 H b ys ∧ min xs.length ys.length = i⟩
theorem turn_zipS {P : Program} {w : World} {K : PySem.W.Frag} {elts : List Expr} {kk : Nat} {tpos : Pos} (k1 k2 : Bool) {a b z TI TO i1 i2 : Addr} (S : ZipSep2 z TI TO i1 i2 [i1, a] [i2, b]) (n1 : a ≠ i1) (n2 : b ≠ i2) :
    Turn P w K (.Tuple elts kk tpos) (ItzS K k1 k2 a b) [z, TI, TO, i1, i2] z (fun i h => IsZip h z TI TO .none ∧ IsTupOf2 h TI (.ref i1) (.ref i2) ∧ (∃ x y, IsTupOf2 h TO x y) ∧ IterS k1 h i1 a i ∧ IterS k2 h i2 b i) where
  mem := by simp
  obj := fun i h st c hc => by
    obtain ⟨hz, hTI, ⟨x, y, hTO⟩, h1, h2⟩ := st
    obtain ⟨o1, e1, d1⟩ := h1.obj
    obtain ⟨o2, e2, d2⟩ := h2.obj
    have e' : c = z ∨ c = TI ∨ c = TO ∨ c = i1 ∨ c = i2 := by simpa using hc
    rcases e' with q | q | q | q | q
    · rw [q]; exact ⟨_, hz, fun v q => nomatch q⟩
    · rw [q]; exact ⟨_, hTI, fun v q => nomatch q⟩
    · rw [q]; exact ⟨_, hTO, fun v q => nomatch q⟩
    · rw [q]; exact ⟨o1, e1, fun v q => by rw [d1] at q; cases q⟩
    · rw [q]; exact ⟨o2, e2, fun v q => by rw [d2] at q; cases q⟩
  keep := fun i h h' st k => by
    obtain ⟨hz, hTI, ⟨x, y, hTO⟩, h1, h2⟩ := st
    exact ⟨k z (by simp) _ hz, k TI (by simp) _ hTI, ⟨x, y, k TO (by simp) _ hTO⟩, h1.keep fun o q => k i1 (by simp) o q, h2.keep fun o q => k i2 (by simp) o q⟩
  item := by
    intro X hP hw hK hc i pins s σ H E I hf st hg
    subst hP hw hK
    obtain ⟨xs, ys, x, y, hqx, hqy, hx, hy⟩ := hg
    obtain ⟨its, rv, src⟩ := src_at I hqx
    obtain ⟨its2, rv2, src2⟩ := src_at I hqy
    have hlt1 : i < its.toArray.size := by rw [List.size_toArray, ← rv.length]; exact (List.getElem?_eq_some_iff.mp hx).1
    have hlt2 : i < its2.toArray.size := by rw [List.size_toArray, ← rv2.length]; exact (List.getElem?_eq_some_iff.mp hy).1
    have hh : X.A.in1.handled = none := I.ok.hd hc
    refine (GoesN.zip2 (elts := elts) (x1 := kk) (pos := tpos) S (src_draws (prog := X.prog) (w := X.w) k1 hh i1 a n1 its.toArray) (src_draws (prog := X.prog) (w := X.w) k2 hh i2 b n2 its2.toArray)).goes i s _ _ (by omega) ⟨st.1, st.2.1, st.2.2.1, ⟨st.2.2.2.1, src⟩, ⟨st.2.2.2.2, src2⟩⟩ fun v h' tk hY hSt hk _ => ?_
    obtain ⟨T, x', y', rfl, hT, hx', hy', o, ho, hoc, n, hod⟩ := hY
    have rx : RelV x x' := by
      obtain ⟨u, hu, ru⟩ := rv.get hx
      have : its[i]? = some x' := by simpa using hx'
      rw [hu] at this; cases this; exact ru
    have ry : RelV y y' := by
      obtain ⟨u, hu, ru⟩ := rv2.get hy
      have : its2[i]? = some y' := by simpa using hy'
      rw [hu] at this; cases this; exact ru
    have new : ObjOk X.prog X.w (upd H T (.tup [x, y])) h' T (.tup [x, y]) := ⟨by show 2 ≤ sizeLine; decide, [x', y'], .cons rx (.cons ry .nil), ⟨o, ho, hoc, n, hod⟩⟩
    have hk' : ∀ c o, c ∉ [z, TI, TO, i1, i2] → s.heap.get? c = some o → h'.get? c = some o := fun c o hc q => hk c o (fun w => hc (by simp at w ⊢; rcases w with w | w | w | w <;> simp [w])) q
    have I1 := I.turnedNew (t' := tk) hk' hf hT new
    refine ⟨.ref T, _, I1, rfl, ⟨T, x, y, rfl, I.hok.fresh hT, rfl, fun l hl => by rw [src_inj I hl hqx]; exact hx, fun l hl => by rw [src_inj I hl hqy]; exact hy⟩, ⟨hSt.1, hSt.2.1, hSt.2.2.1, hSt.2.2.2.1.1, hSt.2.2.2.2.1⟩, fun c hcm => ?_⟩
    have hlt : c < s.heap.objs.size := by
      obtain ⟨hz, hTI, ⟨x, y, hTO⟩, h1, h2⟩ := st
      obtain ⟨o1, e1, d1⟩ := h1.obj
      obtain ⟨o2, e2, d2⟩ := h2.obj
      have e' : c = z ∨ c = TI ∨ c = TO ∨ c = i1 ∨ c = i2 := by simpa using hcm
      rcases e' with q | q | q | q | q
      · rw [q]; exact Heap.lt_size hz
      · rw [q]; exact Heap.lt_size hTI
      · rw [q]; exact Heap.lt_size hTO
      · rw [q]; exact Heap.lt_size e1
      · rw [q]; exact Heap.lt_size e2
    rw [upd_ne (Nat.ne_of_lt (Nat.lt_of_lt_of_le hlt hT))]
    exact (hf c hcm).1
  done := by
    intro X hP hw hK hc i pins s σ H E I hf st hg
    subst hP hw hK
    obtain ⟨xs, ys, hqx, hqy, hl⟩ := hg
    obtain ⟨its, rv, src⟩ := src_at I hqx
    obtain ⟨its2, rv2, src2⟩ := src_at I hqy
    have hh : X.A.in1.handled = none := I.ok.hd hc
    have W := GoesN.zip2 (elts := elts) (x1 := kk) (pos := tpos) S (src_draws (prog := X.prog) (w := X.w) k1 hh i1 a n1 its.toArray) (src_draws (prog := X.prog) (w := X.w) k2 hh i2 b n2 its2.toArray)
    have hn : min its.toArray.size its2.toArray.size = i := by rw [List.size_toArray, List.size_toArray, ← rv.length, ← rv2.length]; exact hl
    rw [hn] at W
    refine W.stops s _ _ ⟨st.1, st.2.1, st.2.2.1, ⟨st.2.2.2.1, src⟩, ⟨st.2.2.2.2, src2⟩⟩ fun h' tk hk _ => ?_
    have hk' : ∀ c o, c ∉ [z, TI, TO, i1, i2] → s.heap.get? c = some o → h'.get? c = some o := fun c o hc q => hk c o (fun w => hc (by simp at w ⊢; rcases w with w | w | w | w <;> simp [w])) q
    exact I.turnedL (t' := tk) hk' hf
  self := fun A i s Q E st h => wpAny_pyIter_zip st.1 h
def iZipS (K : PySem.W.Frag) (ta : TA) : TI := fun σ H R => ta σ H fun vs H1 => ∃ k1 k2 a b xs ys, vs = [.ref a, .ref b] ∧ SqS K k1 H1 a xs ∧ SqS K k2 H1 b ys ∧ R (ItzS K k1 k2 a b) H1
theorem pi_zipS {X : Cx} {e e2 : Expr} {ta : TA} {p pos tpos : Pos} {elts : List Expr} {kk : Nat} (hg : Gl X "zip") (hm : X.mg "zip" = none) (ha : PA X [e, e2] ta)
    (hs : starEach [e, e2] X.env = (false, eval e X.env) :: starEach [e2] X.env := by rfl) (hpl : (backTo pos (starEach [e2] X.env)).any (·.1) = false := by rfl) :
    PI X (.Tuple elts kk tpos) (.Call (.Name "zip" p) [e, e2] [] pos) (iZipS X.K ta) := by
  refine ⟨fun pins s σ H R I h => ?_⟩
  refine Call_ (ld_blt I hg hm PyProof.Rows.boot_zip (PyProof.Rows.callWith_type1 (thn (ha.run pos pins s σ H _ I h) fun us s1 ⟨vs, H1, I1, r1, q1⟩ => ?_) hs hpl))
  obtain ⟨k1, k2, a, b, xs, ys, ex, hqx, hqy, q⟩ := q1
  subst ex
  cases r1 with
  | cons r rr =>
    cases rr with
    | cons r' rr =>
      cases rr
      cases r
      cases r'
      obtain ⟨its, rv, src⟩ := src_at I1 hqx
      obtain ⟨its2, rv2, src2⟩ := src_at I1 hqy
      have l1 := src.lt
      have l2 := src2.lt
      refine zip_begins2 (src_begins k1 a its.toArray) (src_begins k2 b its2.toArray) src src2 fun h' hz hTI hTO h1 h2 hsz hk => wpAny_pyIter_zip hz ?_
      have I2 : Inv X pins σ H1 { s1 with heap := h' } := I1.kept (t' := s1.toks) hk
      refine ⟨s1.heap.objs.size + 4, [s1.heap.objs.size + 4, s1.heap.objs.size + 2, s1.heap.objs.size + 3, s1.heap.objs.size, s1.heap.objs.size + 1], _, _, H1, rfl, I2,
        turn_zipS k1 k2 (zip_sep2 (N := s1.heap.objs.size) (fp1 := [a]) (fp2 := [b]) (fun c hc => by rw [List.mem_singleton.mp hc]; exact l1) (fun c hc => by rw [List.mem_singleton.mp hc]; exact l2)) (Nat.ne_of_lt l1) (Nat.ne_of_lt (Nat.lt_succ_of_lt l2)),
        ⟨hz, hTI, ⟨_, _, hTO⟩, src_start k1 h1, src_start k2 h2⟩, fun c hcm => ?_, q⟩
      have e' : c = s1.heap.objs.size + 4 ∨ c = s1.heap.objs.size + 2 ∨ c = s1.heap.objs.size + 3 ∨ c = s1.heap.objs.size ∨ c = s1.heap.objs.size + 1 := by simpa using hcm
      have hle : s1.heap.objs.size ≤ c := by
        rcases e' with z | z | z | z | z
        · rw [z]; exact Nat.le_add_right _ _
        · rw [z]; exact Nat.le_add_right _ _
        · rw [z]; exact Nat.le_add_right _ _
        · rw [z]; exact Nat.le_refl _
        · rw [z]; exact Nat.le_add_right _ _
      exact I1.fpOk hle (I1.hok.fresh hle)
/-! ### zip of three -/
def ItzS3 (K : PySem.W.Frag) (k1 k2 k3 : Bool) (a b c : Addr) : It :=
  ⟨fun i H => ∃ (xs ys zs : List V) (x y z : V), SqS K k1 H a xs ∧ SqS K k2 H b ys ∧ SqS K k3 H c zs ∧ xs[i]? = some x ∧ ys[i]? = some y ∧ zs[i]? = some z,
    fun i H v H' => ∃ T x y z, v = .ref T ∧ H T = none ∧ H' = upd H T (.tup [x, y, z]) ∧ (∀ xs, SqS K k1 H a xs → xs[i]? = some x) ∧ (∀ ys, SqS K k2 H b ys → ys[i]? = some y) ∧ ∀ zs, SqS K k3 H c zs → zs[i]? = some z,
    fun i H => ∃ xs ys zs : List V, SqS K k1 H a xs ∧ SqS K k2 H b ys ∧ SqS K k3 H c zs ∧ min (min xs.length ys.length) zs.length = i⟩
theorem turn_zipS3 {P : Program} {w : World} {K : PySem.W.Frag} {elts : List Expr} {kk : Nat} {tpos : Pos} (k1 k2 k3 : Bool) {a b c z TI TO i1 i2 i3 : Addr} (S : ZipSep3 z TI TO i1 i2 i3 [i1, a] [i2, b] [i3, c]) (n1 : a ≠ i1) (n2 : b ≠ i2) (n3 : c ≠ i3) :
    Turn P w K (.Tuple elts kk tpos) (ItzS3 K k1 k2 k3 a b c) [z, TI, TO, i1, i2, i3] z (fun i h => IsZip h z TI TO .none ∧ IsTupOf3 h TI (.ref i1) (.ref i2) (.ref i3) ∧ (∃ x y u, IsTupOf3 h TO x y u) ∧ IterS k1 h i1 a i ∧ IterS k2 h i2 b i ∧ IterS k3 h i3 c i) where
  mem := by simp
  obj := fun i h st c hc => by
    obtain ⟨hz, hTI, ⟨x, y, u, hTO⟩, h1, h2, h3⟩ := st
    obtain ⟨o1, e1, d1⟩ := h1.obj
    obtain ⟨o2, e2, d2⟩ := h2.obj
    obtain ⟨o3, e3, d3⟩ := h3.obj
    have e' : c = z ∨ c = TI ∨ c = TO ∨ c = i1 ∨ c = i2 ∨ c = i3 := by simpa using hc
    rcases e' with q | q | q | q | q | q
    · rw [q]; exact ⟨_, hz, fun v q => nomatch q⟩
    · rw [q]; exact ⟨_, hTI, fun v q => nomatch q⟩
    · rw [q]; exact ⟨_, hTO, fun v q => nomatch q⟩
    · rw [q]; exact ⟨o1, e1, fun v q => by rw [d1] at q; cases q⟩
    · rw [q]; exact ⟨o2, e2, fun v q => by rw [d2] at q; cases q⟩
    · rw [q]; exact ⟨o3, e3, fun v q => by rw [d3] at q; cases q⟩
  keep := fun i h h' st k => by
    obtain ⟨hz, hTI, ⟨x, y, u, hTO⟩, h1, h2, h3⟩ := st
    exact ⟨k z (by simp) _ hz, k TI (by simp) _ hTI, ⟨x, y, u, k TO (by simp) _ hTO⟩, h1.keep fun o q => k i1 (by simp) o q, h2.keep fun o q => k i2 (by simp) o q, h3.keep fun o q => k i3 (by simp) o q⟩
  item := by
    intro X hP hw hK hc i pins s σ H E I hf st hg
    subst hP hw hK
    obtain ⟨xs, ys, zs, x, y, u, hqx, hqy, hqz, hx, hy, hu⟩ := hg
    obtain ⟨its, rv, src⟩ := src_at I hqx
    obtain ⟨its2, rv2, src2⟩ := src_at I hqy
    obtain ⟨its3, rv3, src3⟩ := src_at I hqz
    have hlt1 : i < its.toArray.size := by rw [List.size_toArray, ← rv.length]; exact (List.getElem?_eq_some_iff.mp hx).1
    have hlt2 : i < its2.toArray.size := by rw [List.size_toArray, ← rv2.length]; exact (List.getElem?_eq_some_iff.mp hy).1
    have hlt3 : i < its3.toArray.size := by rw [List.size_toArray, ← rv3.length]; exact (List.getElem?_eq_some_iff.mp hu).1
    have hh : X.A.in1.handled = none := I.ok.hd hc
    refine (GoesN.zip3 (elts := elts) (x1 := kk) (pos := tpos) S (src_draws (prog := X.prog) (w := X.w) k1 hh i1 a n1 its.toArray) (src_draws (prog := X.prog) (w := X.w) k2 hh i2 b n2 its2.toArray) (src_draws (prog := X.prog) (w := X.w) k3 hh i3 c n3 its3.toArray)).goes i s _ _ (by omega) ⟨st.1, st.2.1, st.2.2.1, ⟨st.2.2.2.1, src⟩, ⟨st.2.2.2.2.1, src2⟩, ⟨st.2.2.2.2.2, src3⟩⟩ fun v h' tk hY hSt hk _ => ?_
    obtain ⟨T, x', y', u', rfl, hT, hx', hy', hu', o, ho, hoc, n, hod⟩ := hY
    have rx : RelV x x' := by
      obtain ⟨w, hw, ru⟩ := rv.get hx
      have : its[i]? = some x' := by simpa using hx'
      rw [hw] at this; cases this; exact ru
    have ry : RelV y y' := by
      obtain ⟨w, hw, ru⟩ := rv2.get hy
      have : its2[i]? = some y' := by simpa using hy'
      rw [hw] at this; cases this; exact ru
    have ru : RelV u u' := by
      obtain ⟨w, hw, ru⟩ := rv3.get hu
      have : its3[i]? = some u' := by simpa using hu'
      rw [hw] at this; cases this; exact ru
    have new : ObjOk X.prog X.w (upd H T (.tup [x, y, u])) h' T (.tup [x, y, u]) := ⟨by show 3 ≤ sizeLine; decide, [x', y', u'], .cons rx (.cons ry (.cons ru .nil)), ⟨o, ho, hoc, n, hod⟩⟩
    have hk' : ∀ c o, c ∉ [z, TI, TO, i1, i2, i3] → s.heap.get? c = some o → h'.get? c = some o := fun c o hc q => hk c o (fun w => hc (by simp at w ⊢; rcases w with w | w | w | w | w <;> simp [w])) q
    have I1 := I.turnedNew (t' := tk) hk' hf hT new
    refine ⟨.ref T, _, I1, rfl, ⟨T, x, y, u, rfl, I.hok.fresh hT, rfl, fun l hl => by rw [src_inj I hl hqx]; exact hx, fun l hl => by rw [src_inj I hl hqy]; exact hy, fun l hl => by rw [src_inj I hl hqz]; exact hu⟩, ⟨hSt.1, hSt.2.1, hSt.2.2.1, hSt.2.2.2.1.1, hSt.2.2.2.2.1.1, hSt.2.2.2.2.2.1⟩, fun c hcm => ?_⟩
    have hlt : c < s.heap.objs.size := by
      obtain ⟨hz, hTI, ⟨x, y, u, hTO⟩, h1, h2, h3⟩ := st
      obtain ⟨o1, e1, d1⟩ := h1.obj
      obtain ⟨o2, e2, d2⟩ := h2.obj
      obtain ⟨o3, e3, d3⟩ := h3.obj
      have e' : c = z ∨ c = TI ∨ c = TO ∨ c = i1 ∨ c = i2 ∨ c = i3 := by simpa using hcm
      rcases e' with q | q | q | q | q | q
      · rw [q]; exact Heap.lt_size hz
      · rw [q]; exact Heap.lt_size hTI
      · rw [q]; exact Heap.lt_size hTO
      · rw [q]; exact Heap.lt_size e1
      · rw [q]; exact Heap.lt_size e2
      · rw [q]; exact Heap.lt_size e3
    rw [upd_ne (Nat.ne_of_lt (Nat.lt_of_lt_of_le hlt hT))]
    exact (hf c hcm).1
  done := by
    intro X hP hw hK hc i pins s σ H E I hf st hg
    subst hP hw hK
    obtain ⟨xs, ys, zs, hqx, hqy, hqz, hl⟩ := hg
    obtain ⟨its, rv, src⟩ := src_at I hqx
    obtain ⟨its2, rv2, src2⟩ := src_at I hqy
    obtain ⟨its3, rv3, src3⟩ := src_at I hqz
    have hh : X.A.in1.handled = none := I.ok.hd hc
    have W := GoesN.zip3 (elts := elts) (x1 := kk) (pos := tpos) S (src_draws (prog := X.prog) (w := X.w) k1 hh i1 a n1 its.toArray) (src_draws (prog := X.prog) (w := X.w) k2 hh i2 b n2 its2.toArray) (src_draws (prog := X.prog) (w := X.w) k3 hh i3 c n3 its3.toArray)
    have hn : min (min its.toArray.size its2.toArray.size) its3.toArray.size = i := by rw [List.size_toArray, List.size_toArray, List.size_toArray, ← rv.length, ← rv2.length, ← rv3.length]; exact hl
    rw [hn] at W
    refine W.stops s _ _ ⟨st.1, st.2.1, st.2.2.1, ⟨st.2.2.2.1, src⟩, ⟨st.2.2.2.2.1, src2⟩, ⟨st.2.2.2.2.2, src3⟩⟩ fun h' tk hk _ => ?_
    have hk' : ∀ c o, c ∉ [z, TI, TO, i1, i2, i3] → s.heap.get? c = some o → h'.get? c = some o := fun c o hc q => hk c o (fun w => hc (by simp at w ⊢; rcases w with w | w | w | w | w <;> simp [w])) q
    exact I.turnedL (t' := tk) hk' hf
  self := fun A i s Q E st h => wpAny_pyIter_zip st.1 h
def iZipS3 (K : PySem.W.Frag) (ta : TA) : TI := fun σ H R => ta σ H fun vs H1 => ∃ k1 k2 k3 a b c xs ys zs, vs = [.ref a, .ref b, .ref c] ∧ SqS K k1 H1 a xs ∧ SqS K k2 H1 b ys ∧ SqS K k3 H1 c zs ∧ R (ItzS3 K k1 k2 k3 a b c) H1
theorem pi_zipS3 {X : Cx} {e e2 e3 : Expr} {ta : TA} {p pos tpos : Pos} {elts : List Expr} {kk : Nat} (hg : Gl X "zip") (hm : X.mg "zip" = none) (ha : PA X [e, e2, e3] ta)
    (hs : starEach [e, e2, e3] X.env = (false, eval e X.env) :: starEach [e2, e3] X.env := by rfl) (hpl : (backTo pos (starEach [e2, e3] X.env)).any (·.1) = false := by rfl) :
    PI X (.Tuple elts kk tpos) (.Call (.Name "zip" p) [e, e2, e3] [] pos) (iZipS3 X.K ta) := by
  refine ⟨fun pins s σ H R I h => ?_⟩
  refine Call_ (ld_blt I hg hm PyProof.Rows.boot_zip (PyProof.Rows.callWith_type1 (thn (ha.run pos pins s σ H _ I h) fun us s1 ⟨vs, H1, I1, r1, q1⟩ => ?_) hs hpl))
  obtain ⟨k1, k2, k3, a, b, c, xs, ys, zs, ex, hqx, hqy, hqz, q⟩ := q1
  subst ex
  cases r1 with
  | cons r rr =>
    cases rr with
    | cons r' rr =>
      cases rr with
      | cons r'' rr =>
      cases rr
      cases r
      cases r'
      cases r''
      obtain ⟨its, rv, src⟩ := src_at I1 hqx
      obtain ⟨its2, rv2, src2⟩ := src_at I1 hqy
      obtain ⟨its3, rv3, src3⟩ := src_at I1 hqz
      have l1 := src.lt
      have l2 := src2.lt
      have l3 := src3.lt
      refine zip_begins3 (src_begins k1 a its.toArray) (src_begins k2 b its2.toArray) (src_begins k3 c its3.toArray) src src2 src3 fun h' hz hTI hTO h1 h2 h3 hsz hk => wpAny_pyIter_zip hz ?_
      have I2 : Inv X pins σ H1 { s1 with heap := h' } := I1.kept (t' := s1.toks) hk
      refine ⟨s1.heap.objs.size + 5, [s1.heap.objs.size + 5, s1.heap.objs.size + 3, s1.heap.objs.size + 4, s1.heap.objs.size, s1.heap.objs.size + 1, s1.heap.objs.size + 2], _, _, H1, rfl, I2,
        turn_zipS3 k1 k2 k3 (zip_sep3 (N := s1.heap.objs.size) (fp1 := [a]) (fp2 := [b]) (fp3 := [c]) (fun c hc => by rw [List.mem_singleton.mp hc]; exact l1) (fun c hc => by rw [List.mem_singleton.mp hc]; exact l2) (fun c hc => by rw [List.mem_singleton.mp hc]; exact l3)) (Nat.ne_of_lt l1) (Nat.ne_of_lt (Nat.lt_succ_of_lt l2)) (Nat.ne_of_lt (Nat.lt_succ_of_lt (Nat.lt_succ_of_lt l3))),
        ⟨hz, hTI, ⟨_, _, _, hTO⟩, src_start k1 h1, src_start k2 h2, src_start k3 h3⟩, fun c hcm => ?_, q⟩
      have e' : c = s1.heap.objs.size + 5 ∨ c = s1.heap.objs.size + 3 ∨ c = s1.heap.objs.size + 4 ∨ c = s1.heap.objs.size ∨ c = s1.heap.objs.size + 1 ∨ c = s1.heap.objs.size + 2 := by simpa using hcm
      have hle : s1.heap.objs.size ≤ c := by
        rcases e' with z | z | z | z | z | z
        · rw [z]; exact Nat.le_add_right _ _
        · rw [z]; exact Nat.le_add_right _ _
        · rw [z]; exact Nat.le_add_right _ _
        · rw [z]; exact Nat.le_refl _
        · rw [z]; exact Nat.le_add_right _ _
        · rw [z]; exact Nat.le_add_right _ _
      exact I1.fpOk hle (I1.hok.fresh hle)
end DL
set_option Elab.async false
set_option linter.all false
set_option maxRecDepth 100000
set_option maxHeartbeats 2000000
/-! DL, part g: slices, targets, what is walked, comprehensions. -/
namespace DL
open PySem L2
section
variable [Wld] {K : PySem.W.Frag} {m n n1 n2 n3 : Nat} {d x y z : D} {Γ : Gm} {ta tb te tc : TE} {t u : TT} {P P1 P2 P3 : D → Prop} {b c : Bool}
/-! ### slices -/
def DO (K : PySem.W.Frag) (t : TO) (Γ : Gm) (n : Nat) (P : Option Int → Prop) : Prop :=
  ∀ m B H σ, Le (m + n) B H → Sg K B H σ Γ → ∀ Q : Option Int → Hp → Prop, (∀ o B' H', Go B H B' H' → Le m B' H' → P o → Q o H') → t σ H Q
theorem o_none : DO K tNoPart Γ n (· = none) := fun m B H σ le sg Q k => k none B H (Go.refl B H) (le.mono (by omega)) rfl
theorem o_some (h : DF K te Γ n P) {Po : Option Int → Prop} (hi : ∀ d, P d → ∃ i, d = .int i ∧ Po (some i)) : DO K (tPart te) Γ n Po := by
  intro m B H σ le sg Q k
  refine h m B H σ le sg _ fun v B1 H1 x g1 le1 r1 p1 => ?_
  obtain ⟨i, rfl, p⟩ := hi x p1
  cases r1
  exact ⟨i, rfl, k _ B1 H1 g1 le1 p⟩
theorem eo_some {i : Int} (h : DF K te Γ n (· = .int i)) : DO K (tPart te) Γ n (· = some i) := o_some h fun _ e => ⟨i, e, rfl⟩
def cutD (xs : List D) (lo hi : Option Int) : List D := (xs.drop (HT.sIx xs.length 0 lo)).take (HT.sIx xs.length xs.length hi - HT.sIx xs.length 0 lo)
theorem IsL.cut {B : Kn} {vs : List V} {ds : List D} (r : IsL K B vs ds) (lo hi : Option Int) : IsL K B (cutV vs lo hi) (cutD ds lo hi) := by
  unfold cutV cutD
  rw [r.length]
  exact (r.drop _).take _
theorem cut_whole {xs : List D} {lo hi : Option Int} (h : HT.sIx xs.length 0 lo = 0 ∧ HT.sIx xs.length xs.length hi = xs.length) : cutD xs lo hi = xs := by
  unfold cutD
  rw [h.1, h.2]
  simp
def rSlX (K : PySem.W.Frag) : V → Option Int → Option Int → Hp → VK → Prop := fun x lo hi H Q => rSlL K x lo hi H Q ∨ rSlA K x lo hi H Q
theorem sl_X {X : Cx} : SlR X (rSlX X.K) := sl_list.or sl_tupA
variable {tl th : TO} {Pl Ph : Option Int → Prop}
theorem w_sl (ha : DR K te Γ n1 P1) (hl : DO K tl Γ n2 Pl) (hh : DO K th Γ n3 Ph) (h : ∀ x lo hi, P1 x → Pl lo → Ph hi → ∃ xs, x = .lst xs ∧ P (.lst (cutD xs lo hi))) : DW K (tSl (rSlX K) te tl th) Γ (n1 + n2 + n3) P := by
  intro m B H σ le sg Q k
  refine ha (m + n2 + n3) B H σ (le.mono (by omega)) sg _ fun v B1 H1 x g1 le1 r1 p1 => hl (m + n3) B1 H1 σ (le1.mono (by omega)) (sg.go g1) _ fun lo B2 H2 g2 le2 p2 =>
    hh m B2 H2 σ le2 (sg.go (g1.trans g2)) _ fun hi B3 H3 g3 le3 p3 => ?_
  obtain ⟨xs, rfl, p⟩ := h x lo hi p1 p2 p3
  obtain ⟨a, vs, rfl, e, r⟩ := rv_lst (r1.go (g2.trans g3)) le3
  refine .inl ⟨a, vs, rfl, .inl (.inl e), fun q hq => ?_⟩
  obtain ⟨g, le4, ho⟩ := new_lst le3 hq (r.cut lo hi)
  exact k _ _ _ _ (((g1.trans g2).trans g3).trans g) le4 (new_of ((g1.trans g2).trans g3) le3 hq) ho p
theorem f_sl (ha : DR K te Γ n1 P1) (hl : DO K tl Γ n2 Pl) (hh : DO K th Γ n3 Ph) (h : ∀ x lo hi, P1 x → Pl lo → Ph hi → ∃ xs, x = .tup xs ∧ P (.tup (cutD xs lo hi))) : DF K (tSl (rSlX K) te tl th) Γ (n1 + n2 + n3) P := by
  intro m B H σ le sg Q k
  refine ha (m + n2 + n3) B H σ (le.mono (by omega)) sg _ fun v B1 H1 x g1 le1 r1 p1 => hl (m + n3) B1 H1 σ (le1.mono (by omega)) (sg.go g1) _ fun lo B2 H2 g2 le2 p2 =>
    hh m B2 H2 σ le2 (sg.go (g1.trans g2)) _ fun hi B3 H3 g3 le3 p3 => ?_
  obtain ⟨xs, rfl, p⟩ := h x lo hi p1 p2 p3
  obtain ⟨a, vs, rfl, e, r, ta⟩ := rv_tup (r1.go (g2.trans g3)) le3
  refine .inr ⟨a, vs, rfl, e, fun hw => ?_, fun hw q hq => ?_⟩
  · rw [r.length] at hw
    rw [cut_whole hw] at p
    exact k _ B3 H3 _ ((g1.trans g2).trans g3) le3 (.tup ta r) p
  · obtain ⟨B', g, le4, hi⟩ := new_tup le3 hq (r.cut lo hi)
    exact k _ _ _ _ (((g1.trans g2).trans g3).trans g) le4 hi p
theorem ew_sl {xs : List D} {lo hi : Option Int} (ha : DR K te Γ 0 (· = .lst xs)) (hl : DO K tl Γ 0 (· = lo)) (hh : DO K th Γ 0 (· = hi)) : DW K (tSl (rSlX K) te tl th) Γ 0 (· = .lst (cutD xs lo hi)) :=
  w_sl (n1 := 0) (n2 := 0) (n3 := 0) ha hl hh fun _ _ _ e1 e2 e3 => ⟨xs, e1, by rw [e2, e3]⟩
theorem e_sl {xs : List D} {lo hi : Option Int} (ha : DR K te Γ 0 (· = .tup xs)) (hl : DO K tl Γ 0 (· = lo)) (hh : DO K th Γ 0 (· = hi)) : DF K (tSl (rSlX K) te tl th) Γ 0 (· = .tup (cutD xs lo hi)) :=
  f_sl (n1 := 0) (n2 := 0) (n3 := 0) ha hl hh fun _ _ _ e1 e2 e3 => ⟨xs, e1, by rw [e2, e3]⟩
theorem cut_from {xs : List D} {k : Nat} (h : k ≤ xs.length) : cutD xs (some (k : Int)) none = xs.drop k := by
  unfold cutD
  rw [HT.sIx_nat, HT.sIx_none, Nat.min_eq_left h]
  apply List.take_of_length_le
  rw [List.length_drop]; omega
theorem cut_to {xs : List D} {k : Nat} : cutD xs none (some (k : Int)) = xs.take k := by
  unfold cutD
  rw [HT.sIx_nat, HT.sIx_none, List.drop_zero, Nat.sub_zero]
  by_cases h : k ≤ xs.length
  · rw [Nat.min_eq_left h]
  · rw [Nat.min_eq_right (by omega), List.take_of_length_le (by omega), List.take_of_length_le (by omega)]
theorem cut_last {xs : List D} : cutD xs none (some (-1)) = xs.dropLast := by
  have e : HT.sIx xs.length xs.length (some (-1)) = xs.length - 1 := by
    show (if (-1 : Int) < 0 then (-1 + (xs.length : Int)).toNat else min (-1 : Int).toNat xs.length) = _
    rw [if_pos (by decide)]; omega
  unfold cutD
  rw [e, HT.sIx_none, List.drop_zero, Nat.sub_zero, List.dropLast_eq_take]
/-! ### targets -/
/-- d stored by the target g in the slots is gives Γ' -/
def DG (K : PySem.W.Frag) (g : TG) (is : List Nat) (d : D) (Γ Γ' : Gm) : Prop := ∀ B0 H0 m B H σ v, At K B0 H0 m B H σ Γ → Is K B v d →
  ∀ Q : L2.St → Hp → Prop, (∀ σ', At K B0 H0 m B H σ' Γ' → (∀ j, j ∉ is → σ'[j]? = σ[j]?) → σ'.length = σ.length → Q σ' H) → g v σ H Q
theorem g_name {i : Nat} : DG K (gName i) [i] d Γ (Γ.set i (.val d)) := by
  intro B0 H0 m B H σ v a h Q k
  exact k _ (a.setVal i h) (fun j hj => set_off fun q => hj (by rw [q]; exact List.mem_cons_self ..)) (by rw [List.length_set])
def DGs (K : PySem.W.Frag) (g : TGs) (is : List Nat) (ds : List D) (Γ Γ' : Gm) : Prop := ∀ B0 H0 m B H σ vs, At K B0 H0 m B H σ Γ → IsL K B vs ds →
  ∀ Q : L2.St → Hp → Prop, (∀ σ', At K B0 H0 m B H σ' Γ' → (∀ j, j ∉ is → σ'[j]? = σ[j]?) → σ'.length = σ.length → Q σ' H) → g vs σ H Q
theorem gs_nil : DGs K gNil [] [] Γ Γ := by
  intro B0 H0 m B H σ vs a h Q k
  cases h
  exact ⟨rfl, k σ a (fun _ _ => rfl) rfl⟩
theorem gs_cons {g : TG} {gs : TGs} {is js : List Nat} {ds : List D} {Γ1 Γ2 : Gm} (h1 : DG K g is d Γ Γ1) (h2 : DGs K gs js ds Γ1 Γ2) : DGs K (gCons g gs) (is ++ js) (d :: ds) Γ Γ2 := by
  intro B0 H0 m B H σ vs a h Q k
  cases h with
  | cons x r =>
    refine ⟨_, _, rfl, h1 B0 H0 m B H σ _ a x _ fun σ1 a1 q1 l1 => h2 B0 H0 m B H σ1 _ a1 r _ fun σ2 a2 q2 l2 => ?_⟩
    exact k σ2 a2 (fun j hj => (q2 j fun q => hj (List.mem_append_right _ q)).trans (q1 j fun q => hj (List.mem_append_left _ q))) (l2.trans l1)
theorem g_tup {gs : TGs} {is : List Nat} {ds : List D} {l : Nat} {Γ2 : Gm} (h : DGs K gs is ds Γ Γ2) (hl : ds.length = l := by rfl) : DG K (gTup K l gs) is (.tup ds) Γ Γ2 := by
  intro B0 H0 m B H σ v a hi Q k
  obtain ⟨p, vs, rfl, e, r, _⟩ := is_tup hi a.le
  exact ⟨p, vs, rfl, e, by rw [r.length]; exact hl, h B0 H0 m B H σ vs a r Q k⟩
/-! ### what is walked -/
structure Gz (B : Kn) (H : Hp) (B' : Kn) (H' : Hp) : Prop where
  b : ∀ a f, B a = some f → B' a = some f
  z : ∀ a o u, H a = some (.frz o u) → H' a = some (.frz o u)
theorem Go.gz {B B' : Kn} {H H' : Hp} (g : Go B H B' H') : Gz B H B' H' := ⟨g.b, g.z⟩
structure WalkD (K : PySem.W.Frag) (J : It) (B : Kn) (H : Hp) (ds : List D) : Prop where
  go : ∀ m B' H' i, Gz B H B' H' → Le m B' H' → i < ds.length → J.go i H'
  stop : ∀ m B' H', Gz B H B' H' → Le m B' H' → J.stop ds.length H'
  yld : ∀ m B' H' i x H'', Gz B H B' H' → Le m B' H' → i < ds.length → J.yld i H' x H'' → ∃ B'' d, ds[i]? = some d ∧ Go B' H' B'' H'' ∧ Le m B'' H'' ∧ Is K B'' x d
def DI (K : PySem.W.Frag) (wi : TI) (Γ : Gm) (n : Nat) (P : List D → Prop) : Prop :=
  ∀ m B H σ, Le (m + n) B H → Sg K B H σ Γ → ∀ R : It → Hp → Prop, (∀ J B' H' ds, Go B H B' H' → Le m B' H' → WalkD K J B' H' ds → P ds → R J H') → wi σ H R
theorem walk_l {B : Kn} {H : Hp} {a : Addr} {vs : List V} {ds : List D} (e : B a = some (.fz (.lst vs))) (r : IsL K B vs ds) : WalkD K (Itl K a) B H ds := by
  have at_ : ∀ {m B' H'}, Gz B H B' H' → Le m B' H' → H' a = some (.lst vs) := fun g le => by
    rcases le _ _ (g.b _ _ e) with q | ⟨q, _⟩
    · exact q
    · cases q
  have l := r.length
  refine ⟨fun m B' H' i g le hi => ?_, fun m B' H' g le => ⟨vs, .inl (.inl (at_ g le)), by rw [l]; exact Nat.le_refl _⟩, fun m B' H' i x H'' g le hi ⟨e1, e2⟩ => ?_⟩
  · exact ⟨vs, vs[i]'(by rw [l]; exact hi), .inl (.inl (at_ g le)), List.getElem?_eq_getElem _⟩
  · subst e1
    have q := e2 vs (.inl (.inl (at_ g le)))
    obtain ⟨d, hd, hi⟩ := r.get' q
    exact ⟨B', d, hd, Go.refl _ _, le, hi.mono g.b⟩
theorem Rd.lst_inj {H : Hp} {a : Addr} {xs ys : List V} (h : H a = some (.tup xs)) (h' : Rd H a (.tup ys)) : xs = ys := by
  rcases h' with h' | ⟨o, h'⟩ <;> (rw [h] at h'; cases h'); rfl
theorem walk_t {B : Kn} {H : Hp} {a : Addr} {vs : List V} {ds : List D} (e : TupAt K B a vs) (r : IsL K B vs ds) : WalkD K (Itt K a) B H ds := by
  have l := r.length
  refine ⟨fun m B' H' i g le hi => ?_, fun m B' H' g le => ⟨vs, (e.mono g.b).sq le, by rw [l]; exact Nat.le_refl _⟩, fun m B' H' i x H'' g le hi ⟨e1, e2⟩ => ?_⟩
  · exact ⟨vs, vs[i]'(by rw [l]; exact hi), (e.mono g.b).sq le, List.getElem?_eq_getElem _⟩
  · subst e1
    have q := e2 vs ((e.mono g.b).sq le)
    obtain ⟨d, hd, hi⟩ := r.get' q
    exact ⟨B', d, hd, Go.refl _ _, le, hi.mono g.b⟩
/-- a list or a tuple -/
def iSeq (K : PySem.W.Frag) (te : TE) : TI := fun σ H R => iList K te σ H R ∨ iTup K te σ H R
theorem pi_or {X : Cx} {tg e : Expr} {w1 w2 : TI} (h1 : PI X tg e w1) (h2 : PI X tg e w2) : PI X tg e (fun σ H R => w1 σ H R ∨ w2 σ H R) := ⟨fun pins s σ H R I h => h.elim (h1.run pins s σ H R I) (h2.run pins s σ H R I)⟩
theorem pi_seq {X : Cx} {tg e : Expr} {te : TE} (h : PE X e te) : PI X tg e (iSeq X.K te) := pi_or (pi_list h) (pi_tup h)
theorem i_l {ds : List D} (h : DF K te Γ n (· = .lst ds)) : DI K (iSeq K te) Γ n (· = ds) := by
  intro m B H σ le sg R k
  refine .inl (h m B H σ le sg _ fun v B1 H1 x g1 le1 hi p => ?_)
  subst p
  obtain ⟨a, vs, rfl, e, r, eb⟩ := is_lst hi le1
  exact ⟨a, rfl, ⟨vs, .inl (.inl e)⟩, k _ B1 H1 ds g1 le1 (walk_l eb r) rfl⟩
theorem i_t {ds : List D} (h : DF K te Γ n (· = .tup ds)) : DI K (iSeq K te) Γ n (· = ds) := by
  intro m B H σ le sg R k
  refine .inr (h m B H σ le sg _ fun v B1 H1 x g1 le1 hi p => ?_)
  subst p
  obtain ⟨a, vs, rfl, e, r, eb⟩ := is_tup hi le1
  exact ⟨a, rfl, ⟨vs, e⟩, k _ B1 H1 ds g1 le1 (walk_t eb r) rfl⟩
/-- the same where only a property of the data is known -/
theorem i_lP (h : DF K te Γ n P) {PL : List D → Prop} (hp : ∀ d, P d → ∃ ds, d = .lst ds ∧ PL ds) : DI K (iSeq K te) Γ n PL := by
  intro m B H σ le sg R k
  refine .inl (h m B H σ le sg _ fun v B1 H1 x g1 le1 hi p => ?_)
  obtain ⟨ds, rfl, p'⟩ := hp x p
  obtain ⟨a, vs, rfl, e, r, eb⟩ := is_lst hi le1
  exact ⟨a, rfl, ⟨vs, .inl (.inl e)⟩, k _ B1 H1 ds g1 le1 (walk_l eb r) p'⟩
def rngD (lo : Int) (n : Nat) : List D := (List.range n).map fun i => .int (lo + (i : Nat))
theorem rngD_get {lo : Int} {n i : Nat} (h : i < n) : (rngD lo n)[i]? = some (.int (lo + (i : Nat))) := by
  unfold rngD
  rw [List.getElem?_map, List.getElem?_range h]; rfl
theorem rngD_len {lo : Int} {n : Nat} : (rngD lo n).length = n := by unfold rngD; rw [List.length_map, List.length_range]
theorem walk_r {B : Kn} {H : Hp} {lo : Int} {n : Nat} : WalkD K (Itr lo n) B H (rngD lo n) := by
  refine ⟨fun m B' H' i g le hi => by rw [rngD_len] at hi; exact hi, fun m B' H' g le => by rw [rngD_len]; exact Nat.le_refl _, fun m B' H' i x H'' g le hi ⟨e1, e2⟩ => ?_⟩
  rw [rngD_len] at hi
  subst e1
  subst e2
  exact ⟨B', _, rngD_get hi, Go.refl _ _, le, .int _⟩
theorem i_r1 (h : DF K te Γ n P) {PL : List D → Prop} (hp : ∀ d, P d → ∃ j : Int, d = .int j ∧ -(2 ^ 62) ≤ j ∧ j < 2 ^ 62 ∧ PL (rngD 0 j.toNat)) : DI K (iRng1 (tCons te tNil)) Γ n PL := by
  intro m B H σ le sg R k
  refine h m B H σ le sg _ fun v B1 H1 x g1 le1 hi p => ?_
  obtain ⟨j, rfl, h1, h2, p⟩ := hp x p
  cases hi
  exact ⟨j, rfl, h1, h2, k _ B1 H1 _ g1 le1 walk_r p⟩
theorem ei_r1 {j : Int} (h : DF K te Γ n (· = .int j)) (h1 : -(2 ^ 62) ≤ j) (h2 : j < 2 ^ 62) : DI K (iRng1 (tCons te tNil)) Γ n (· = rngD 0 j.toNat) := i_r1 h fun _ e => ⟨j, e, h1, h2, rfl⟩
theorem ei_r2 {i j : Int} (ha : DF K ta Γ 0 (· = .int i)) (hb : DF K tb Γ 0 (· = .int j)) (h : -(2 ^ 62) ≤ i ∧ i < 2 ^ 62 ∧ -(2 ^ 62) ≤ j ∧ j < 2 ^ 62) : DI K (iRng2 (tCons ta (tCons tb tNil))) Γ 0 (· = rngD i (j - i).toNat) := by
  intro m B H σ le sg R k
  refine ha m B H σ le sg _ fun v B1 H1 x g1 le1 hi p => hb m B1 H1 σ le1 (sg.go g1) _ fun w B2 H2 y g2 le2 hi2 p2 => ?_
  subst p; subst p2; cases hi; cases hi2
  exact ⟨i, j, rfl, h, k _ B2 H2 _ (g1.trans g2) le2 walk_r rfl⟩
/-- a text, sign by sign -/
def sgD (s : Str) : List D := s.cps.toList.map fun c => .str ⟨#[c]⟩
theorem i_str {s : Str} (h : DF K te Γ n (· = .str s)) : DI K (iStr te) Γ n (· = sgD s) := by
  intro m B H σ le sg R k
  refine h m B H σ le sg _ fun v B1 H1 x g1 le1 hi p => ?_
  subst p; cases hi
  refine ⟨s, rfl, k _ B1 H1 _ g1 le1 ?_ rfl⟩
  have l : (sgD s).length = s.cps.size := by unfold sgD; rw [List.length_map, Array.length_toList]
  refine ⟨fun m B' H' i g le hi => by rw [l] at hi; exact hi, fun m B' H' g le => by rw [l]; exact Nat.le_refl _, fun m B' H' i x H'' g le hi ⟨e1, c, e2, e3⟩ => ?_⟩
  subst e1; subst e3
  refine ⟨B', .str ⟨#[c]⟩, ?_, Go.refl _ _, le, .str _⟩
  unfold sgD
  rw [List.getElem?_map, Array.getElem?_toList, e2]; rfl
/-! ### enumerate, zip -/
def isSeq : D → Option (List D)
  | .lst ds => some ds
  | .tup ds => some ds
  | _ => none
theorem seq_src {B : Kn} {H : Hp} {v : V} {x : D} {ds : List D} (h : Is K B v x) (le : Le m B H) (e : isSeq x = some ds) : ∃ k a vs, v = .ref a ∧ IsL K B vs ds ∧ ∀ m' B' H', Gw B B' → Le m' B' H' → SqS K k H' a vs := by
  cases x <;> try (cases e; done)
  · cases e
    obtain ⟨a, vs, rfl, _, r, eb⟩ := is_lst h le
    refine ⟨true, a, vs, rfl, r, fun m' B' H' g le' => ?_⟩
    rcases le' _ _ (g _ _ eb) with q | ⟨q, _⟩
    · exact .inl (.inl q)
    · cases q
  · cases e
    obtain ⟨a, vs, rfl, _, r, t⟩ := is_tup h le
    exact ⟨false, a, vs, rfl, r, fun m' B' H' g le' => (t.mono g).sq le'⟩
def enumD (ds : List D) : List D := (List.range ds.length).map fun i => .tup [.int (i : Nat), ds.getD i .non]
theorem enumD_len (ds : List D) : (enumD ds).length = ds.length := by unfold enumD; rw [List.length_map, List.length_range]
theorem enumD_get {ds : List D} {i : Nat} {d : D} (h : ds[i]? = some d) : (enumD ds)[i]? = some (.tup [.int (i : Nat), d]) := by
  have hi := (List.getElem?_eq_some_iff.mp h).1
  unfold enumD
  rw [List.getElem?_map, List.getElem?_range hi]
  simp [List.getD, h]
theorem i_enumP (h : DF K te Γ n P) {PL : List D → Prop} (hp : ∀ d, P d → ∃ ds, isSeq d = some ds ∧ PL (enumD ds)) : DI K (iEnumS K (tCons te tNil)) Γ n PL := by
  intro m B H σ le sg R k
  refine h m B H σ le sg _ fun v B1 H1 x g1 le1 hi p => ?_
  obtain ⟨ds, hs, p⟩ := hp x p
  obtain ⟨kk, a, vs, rfl, r, at_⟩ := seq_src hi le1 hs
  refine ⟨kk, a, vs, rfl, at_ _ _ _ (fun _ _ z => z) le1, k _ B1 H1 _ g1 le1 ⟨fun m B' H' i g le hi => ?_, fun m B' H' g le => ⟨vs, at_ _ _ _ g.b le, by rw [enumD_len, r.length]⟩, fun m B' H' i x H'' g le hi ⟨T, y, e1, e2, e3, e4⟩ => ?_⟩ p⟩
  · rw [enumD_len, ← r.length] at hi
    exact ⟨vs, vs[i], at_ _ _ _ g.b le, List.getElem?_eq_getElem hi⟩
  · subst e1; subst e3
    obtain ⟨d, hd, hy⟩ := r.get' (e4 vs (at_ _ _ _ g.b le))
    obtain ⟨B'', g2, le2, hi2⟩ := new_tup le e2 (.cons (.int _) (.one (hy.mono g.b)) : IsL K B' [.int (i : Nat), y] [.int (i : Nat), d])
    exact ⟨B'', _, enumD_get hd, g2, le2, hi2⟩
theorem i_enum {x : D} {ds : List D} (h : DF K te Γ n (· = x)) (hs : isSeq x = some ds) : DI K (iEnumS K (tCons te tNil)) Γ n (· = enumD ds) := i_enumP h fun _ e => ⟨ds, by rw [e]; exact hs, rfl⟩
def zipD (xs ys : List D) : List D := List.zipWith (fun x y => .tup [x, y]) xs ys
theorem zipD_len (xs ys : List D) : (zipD xs ys).length = min xs.length ys.length := List.length_zipWith
theorem zipD_get {xs ys : List D} {i : Nat} {x y : D} (h1 : xs[i]? = some x) (h2 : ys[i]? = some y) : (zipD xs ys)[i]? = some (.tup [x, y]) := by
  unfold zipD
  rw [List.getElem?_zipWith, h1, h2]
theorem i_zip {x y : D} {xs ys : List D} (ha : DF K ta Γ 0 (· = x)) (hb : DF K tb Γ 0 (· = y)) (h1 : isSeq x = some xs) (h2 : isSeq y = some ys) : DI K (iZipS K (tCons ta (tCons tb tNil))) Γ 0 (· = zipD xs ys) := by
  intro m B H σ le sg R k
  refine ha m B H σ le sg _ fun v B1 H1 x g1 le1 hi p => hb m B1 H1 σ le1 (sg.go g1) _ fun w B2 H2 y g2 le2 hi2 p2 => ?_
  subst p; subst p2
  obtain ⟨k1, a, vs, rfl, r, at_⟩ := seq_src (hi.mono g2.b) le2 h1
  obtain ⟨k2, b, ws, rfl, r2, at2⟩ := seq_src hi2 le2 h2
  refine ⟨k1, k2, a, b, vs, ws, rfl, at_ _ _ _ (fun _ _ z => z) le2, at2 _ _ _ (fun _ _ z => z) le2, k _ B2 H2 _ (g1.trans g2) le2 ⟨fun m B' H' i g le hi => ?_, fun m B' H' g le => ⟨vs, ws, at_ _ _ _ g.b le, at2 _ _ _ g.b le, by rw [zipD_len, r.length, r2.length]⟩, fun m B' H' i x H'' g le hi ⟨T, x', y', e1, e2, e3, e4, e5⟩ => ?_⟩ rfl⟩
  · rw [zipD_len, ← r.length, ← r2.length] at hi
    exact ⟨vs, ws, vs[i]'(by omega), ws[i]'(by omega), at_ _ _ _ g.b le, at2 _ _ _ g.b le, List.getElem?_eq_getElem _, List.getElem?_eq_getElem _⟩
  · subst e1; subst e3
    obtain ⟨d, hd, hx⟩ := r.get' (e4 vs (at_ _ _ _ g.b le))
    obtain ⟨e, he, hy⟩ := r2.get' (e5 ws (at2 _ _ _ g.b le))
    obtain ⟨B'', g3, le3, hi3⟩ := new_tup le e2 (.cons (hx.mono g.b) (.one (hy.mono g.b)) : IsL K B' [x', y'] [d, e])
    exact ⟨B'', _, zipD_get hd he, g3, le3, hi3⟩
def zip3D (xs ys zs : List D) : List D := List.zipWith (fun x p => match p with | .tup [y, z] => .tup [x, y, z] | _ => .non) xs (zipD ys zs)
theorem zip3D_len (xs ys zs : List D) : (zip3D xs ys zs).length = min xs.length (min ys.length zs.length) := by unfold zip3D; rw [List.length_zipWith, zipD_len]
theorem zip3D_get {xs ys zs : List D} {i : Nat} {x y z : D} (h1 : xs[i]? = some x) (h2 : ys[i]? = some y) (h3 : zs[i]? = some z) : (zip3D xs ys zs)[i]? = some (.tup [x, y, z]) := by
  unfold zip3D
  rw [List.getElem?_zipWith, h1, zipD_get h2 h3]
theorem i_zip3 {x y z : D} {xs ys zs : List D} (ha : DF K ta Γ 0 (· = x)) (hb : DF K tb Γ 0 (· = y)) (hc : DF K tc Γ 0 (· = z)) (h1 : isSeq x = some xs) (h2 : isSeq y = some ys) (h3 : isSeq z = some zs) : DI K (iZipS3 K (tCons ta (tCons tb (tCons tc tNil)))) Γ 0 (· = zip3D xs ys zs) := by
  intro m B H σ le sg R k
  refine ha m B H σ le sg _ fun v B1 H1 x g1 le1 hi p => hb m B1 H1 σ le1 (sg.go g1) _ fun w B2 H2 y g2 le2 hi2 p2 => hc m B2 H2 σ le2 (sg.go (g1.trans g2)) _ fun u B3 H3 z g3 le3 hi3 p3 => ?_
  subst p; subst p2; subst p3
  obtain ⟨k1, a, vs, rfl, r, at_⟩ := seq_src ((hi.mono g2.b).mono g3.b) le3 h1
  obtain ⟨k2, b, ws, rfl, r2, at2⟩ := seq_src (hi2.mono g3.b) le3 h2
  obtain ⟨k3, c, us, rfl, r3, at3⟩ := seq_src hi3 le3 h3
  refine ⟨k1, k2, k3, a, b, c, vs, ws, us, rfl, at_ _ _ _ (fun _ _ z => z) le3, at2 _ _ _ (fun _ _ z => z) le3, at3 _ _ _ (fun _ _ z => z) le3, k _ B3 H3 _ ((g1.trans g2).trans g3) le3 ⟨fun m B' H' i g le hi => ?_, fun m B' H' g le => ⟨vs, ws, us, at_ _ _ _ g.b le, at2 _ _ _ g.b le, at3 _ _ _ g.b le, by rw [zip3D_len, r.length, r2.length, r3.length]; omega⟩, fun m B' H' i x H'' g le hi ⟨T, x', y', z', e1, e2, e3, e4, e5, e6⟩ => ?_⟩ rfl⟩
  · rw [zip3D_len, ← r.length, ← r2.length, ← r3.length] at hi
    exact ⟨vs, ws, us, vs[i]'(by omega), ws[i]'(by omega), us[i]'(by omega), at_ _ _ _ g.b le, at2 _ _ _ g.b le, at3 _ _ _ g.b le, List.getElem?_eq_getElem _, List.getElem?_eq_getElem _, List.getElem?_eq_getElem _⟩
  · subst e1; subst e3
    obtain ⟨d, hd, hx⟩ := r.get' (e4 vs (at_ _ _ _ g.b le))
    obtain ⟨e, he, hy⟩ := r2.get' (e5 ws (at2 _ _ _ g.b le))
    obtain ⟨f, hf, hz⟩ := r3.get' (e6 us (at3 _ _ _ g.b le))
    obtain ⟨B'', g4, le4, hi4⟩ := new_tup le e2 (.cons (hx.mono g.b) (.cons (hy.mono g.b) (.one (hz.mono g.b))) : IsL K B' [x', y', z'] [d, e, f])
    exact ⟨B'', _, zip3D_get hd he hf, g4, le4, hi4⟩
/-! ### the keys of a dict: it stays known as it is walked -/
def tLd (td : TE) : TE := fun σ H Q => td σ H fun x H1 => Q x H1 ∨ ∃ d kvs, x = .ref d ∧ H1 d = some (.dK kvs) ∧ ∀ od, Q x (upd H1 d (.frz od (.dK kvs)))
def iKeysL (td : TE) : TI := iKeys (tLd td)
theorem IsK.keyAt {B : Kn} : ∀ {vs : List (Key × V)} {ds : List (Key × D)} {i : Nat} {k : Key} {v : V}, IsK K B vs ds → vs[i]? = some (k, v) → ∃ d, ds[i]? = some (k, d) ∧ Is K B v d
  | _, _, 0, _, _, .cons x _, e => by injection e with e; cases e; exact ⟨_, rfl, x⟩
  | _, _, i + 1, _, _, .cons _ r, e => IsK.keyAt (i := i) r e
theorem go_lock {B : Kn} {H : Hp} {a : Addr} {vs : List (Key × V)} {od : Obj} (le : Le m B H) (eb : B a = some (.fz (.dK vs))) (ea : H a = some (.dK vs)) : Go B H B (upd H a (.frz od (.dK vs))) ∧ Le m B (upd H a (.frz od (.dK vs))) := by
  refine ⟨⟨fun _ _ h => h, fun b o e k => ⟨?_, k⟩, fun b o u e => ?_⟩, fun b f k => ?_⟩
  · rw [upd_ne fun q => by rw [q, eb] at k; cases k]; exact e
  · rw [upd_ne fun q => by rw [q, ea] at e; cases e]; exact e
  · by_cases q : b = a
    · rw [q, eb] at k; cases k; rw [q]; exact .inr ⟨rfl, od, upd_same⟩
    · have w := le b f k
      cases f with
      | fz o => unfold Has at w ⊢; rw [upd_ne q]; exact w
      | st => unfold Has at w ⊢; rw [upd_ne q]; exact w
theorem walk_k {B : Kn} {H : Hp} {a : Addr} {vs : List (Key × V)} {ds : List (Key × D)} {od : Obj} (e : H a = some (.frz od (.dK vs))) (r : IsK K B vs ds) : WalkD K (Itk a od vs) B H (ds.map fun kv => kD kv.1) := by
  have l := r.length
  refine ⟨fun m B' H' i g le hi => ⟨g.z _ _ _ e, by rw [List.length_map] at hi; rw [l]; exact hi⟩, fun m B' H' g le => ⟨g.z _ _ _ e, by rw [List.length_map, l]; exact Nat.le_refl _⟩, fun m B' H' i x H'' g le hi ⟨e1, k, v, e2, e3⟩ => ?_⟩
  subst e1; subst e3
  obtain ⟨d, hd, _⟩ := r.keyAt e2
  exact ⟨B', kD k, by rw [List.getElem?_map, hd]; rfl, Go.refl _ _, le, is_kD k⟩
theorem i_keys {kvs : List (Key × D)} (h : DF K te Γ n (· = .dK kvs)) : DI K (iKeysL te) Γ n (· = kvs.map fun kv => kD kv.1) := by
  intro m B H σ le sg R k
  refine h m B H σ le sg _ fun v B1 H1 x g1 le1 hi p => ?_
  subst p
  obtain ⟨a, vs, rfl, e, r, eb⟩ := is_dK hi le1
  rcases e with e | ⟨od, e⟩
  · refine .inr ⟨a, vs, rfl, e, fun od => ⟨a, od, rfl, .inl ⟨vs, upd_same, ?_⟩⟩⟩
    obtain ⟨g2, le2⟩ := go_lock (od := od) le1 eb e
    exact k _ B1 _ _ (g1.trans g2) le2 (walk_k upd_same r) rfl
  · exact .inl ⟨a, od, rfl, .inl ⟨vs, e, k _ B1 H1 _ g1 le1 (walk_k e r) rfl⟩⟩
end
section
variable [Wld] {K : PySem.W.Frag} {m n : Nat} {Γ : Gm} {te : TE}
theorem go_lockN {B : Kn} {H : Hp} {a : Addr} {o : HO} {od : Obj} (ho : isDic o = true) (le : Le m B H) (eb : B a = some (.fz o)) (ea : H a = some o) (nz : ∀ p u, o ≠ .frz p u) : Go B H B (upd H a (.frz od o)) ∧ Le m B (upd H a (.frz od o)) := by
  refine ⟨⟨fun _ _ h => h, fun b o' e k => ⟨?_, k⟩, fun b o' u e => ?_⟩, fun b f k => ?_⟩
  · rw [upd_ne fun q => by rw [q, eb] at k; cases k]; exact e
  · rw [upd_ne fun q => by rw [q, ea] at e; exact absurd (Option.some.inj e) (nz _ _)]; exact e
  · by_cases q : b = a
    · subst q
      rw [eb] at k
      cases k
      exact .inr ⟨ho, od, upd_same⟩
    · have w := le b f k
      cases f with
      | fz o => unfold Has at w ⊢; rw [upd_ne q]; exact w
      | st => unfold Has at w ⊢; rw [upd_ne q]; exact w
theorem IsN.keyAt {B : Kn} : ∀ {xs : NEs} {ds : List (NestedKey × D)} {i : Nat} {e : NestedKey × Addr × V}, IsN K B xs ds → xs[i]? = some e → ∃ d, ds[i]? = some (e.1, d) ∧ Is K B (.ref e.2.1) (nkD e.1)
  | _, _, 0, _, .cons k _ _ _, q => by cases q; exact ⟨_, rfl, k.is⟩
  | _, _, i + 1, _, .cons _ _ _ r, q => IsN.keyAt (i := i) r q
theorem walk_n {B : Kn} {H : Hp} {a : Addr} {xs : NEs} {ds : List (NestedKey × D)} {od : Obj} (e : H a = some (.frz od (nHO Wld.w a xs))) (r : IsN K B xs ds) : WalkD K (ItkN Wld.w a od xs) B H (ds.map fun kv => nkD kv.1) := by
  refine ⟨fun m B' H' i g le hi => ⟨g.z _ _ _ e, by rw [List.length_map, ← r.length] at hi; exact hi⟩, fun m B' H' g le => ⟨g.z _ _ _ e, by rw [List.length_map, r.length]; exact Nat.le_refl _⟩, fun m B' H' i x H'' g le hi ⟨e1, en, e2, e3⟩ => ?_⟩
  subst e1; subst e3
  obtain ⟨d, hd, hk⟩ := r.keyAt e2
  exact ⟨B', _, by rw [List.getElem?_map, hd]; rfl, Go.refl _ _, le, hk.mono g.b⟩
theorem i_keysN {kvs : List (NestedKey × D)} (h : DF K te Γ n (· = .dN kvs)) : DI K (iKeysN Wld.w te) Γ n (· = kvs.map fun kv => nkD kv.1) := by
  intro m B H σ le sg R k
  refine h m B H σ le sg _ fun v B1 H1 x g1 le1 hi p => ?_
  subst p
  obtain ⟨a, xs, rfl, e, r, eb⟩ := is_dN hi le1
  rcases e.rd with e | ⟨od, e⟩
  · refine ⟨a, xs, rfl, .inr ⟨e, fun od => ?_⟩⟩
    obtain ⟨g2, le2⟩ := go_lockN (od := od) rfl le1 eb e (fun p u q => by cases q)
    exact k _ B1 _ _ (g1.trans g2) le2 (walk_n upd_same r) rfl
  · exact ⟨a, xs, rfl, .inl ⟨od, e, k _ B1 H1 _ g1 le1 (walk_n e r) rfl⟩⟩
end
section
variable {X : Cx} {tg e : Expr} {td : TE}
theorem pe_lockd (he : PE X e td) : PE X e (tLd td) := by
  refine ⟨fun pins s σ H Q I h => ?_⟩
  refine thn (he.run pins s σ H _ I h) fun u s1 ⟨v, H1, I1, r, q⟩ => ?_
  rcases q with q | ⟨d, kvs, rfl, hd, q⟩
  · exact ⟨v, H1, I1, r, q⟩
  · obtain ⟨od, I2⟩ := I1.lock hd trivial
    exact ⟨_, _, I2, r, q od⟩
theorem pi_keysL (he : PE X e td) : PI X tg e (iKeysL td) := pi_keys (pe_lockd he)
end
end DL
set_option Elab.async false
set_option linter.all false
set_option maxRecDepth 100000
set_option maxHeartbeats 2000000
/-! DL, part h: comprehensions. -/
namespace DL
open PySem L2
section
variable [Wld] {K : PySem.W.Frag} {m n n1 n2 n3 : Nat} {d x y z : D} {Γ : Gm} {ta tb te tc : TE} {t u tt : TT} {P P1 P2 P3 : D → Prop} {b c : Bool} {wi : TI} {g : TG} {vs is : List Nat}
theorem own_change {B0 B : Kn} {H0 H : Hp} {a : Addr} {o : HO} (g : Go B0 H0 B H) (h0 : H0 a = none) (le : Le m B H) (hb : B a = none) : Go B0 H0 B (upd H a o) ∧ Le m B (upd H a o) := by
  refine ⟨⟨g.b, fun b o' e k => ⟨?_, (g.h b o' e k).2⟩, fun b o' u e => ?_⟩, fun b f k => ?_⟩
  · have q : b ≠ a := fun q => by rw [q, h0] at e; cases e
    rw [upd_ne q]; exact (g.h b o' e k).1
  · have q : b ≠ a := fun q => by rw [q, h0] at e; cases e
    rw [upd_ne q]; exact g.z b o' u e
  · have q : b ≠ a := fun q => by rw [q, hb] at k; cases k
    have w := le b f k
    cases f with
    | fz o => unfold Has at w ⊢; rw [upd_ne q]; exact w
    | st => unfold Has at w ⊢; rw [upd_ne q]; exact w
theorem wipe_none {σ : L2.St} {j : Nat} : ∀ {vs : List Nat}, j ∈ vs → (L2.wipe σ vs)[j]? = if j < σ.length then some none else none
  | v :: vs, h => by
    show ((L2.wipe σ vs).set v none)[j]? = _
    rw [List.getElem?_set, wipe_length]
    by_cases q : v = j
    · rw [if_pos q]; subst q; rfl
    · rw [if_neg q]
      rcases List.mem_cons.mp h with e | h
      · exact absurd e.symm q
      · exact wipe_none h
theorem wipe_eq {σ σ' : L2.St} (hl : σ'.length = σ.length) (h : ∀ j, j ∉ vs → σ'[j]? = σ[j]?) : L2.wipe σ' vs = L2.wipe σ vs := by
  apply List.ext_getElem?
  intro j
  by_cases q : j ∈ vs
  · rw [wipe_none q, wipe_none q, hl]
  · rw [wipe_out q, wipe_out q]; exact h j q
theorem at_any {B : Kn} {H : Hp} {σ : L2.St} (le : Le m B H) (sg : Sg K B H σ Γ) : At K (fun _ => none) (fun _ => none) m B H σ Γ :=
  ⟨⟨fun _ _ h => (nomatch h), fun _ _ h _ => (nomatch h), fun _ _ _ h => (nomatch h)⟩, le, sg, fun _ _ _ _ _ _ => rfl⟩
theorem t_yes : DT K tYes Γ n (· = true) := fun m B H σ le sg Q k => k true B H (Go.refl B H) (le.mono (by omega)) rfl
theorem mul_step {l i c : Nat} (h : i < l) : (l - i) * c = (l - (i + 1)) * c + c := by
  have e : l - i = (l - (i + 1)) + 1 := by omega
  rw [e, Nat.succ_mul]
theorem w_lc {L : Nat} {PL : List D → Prop} (Inv : List D → Nat → List D → Prop) (hi : DI K wi Γ n PL) (hlen : ∀ ds, PL ds → ds.length ≤ L) (hL : L ≤ 16000000) (hsub : ∀ j ∈ is, j ∈ vs) (h0 : ∀ ds, PL ds → Inv ds 0 [])
    (hs : ∀ (ds : List D) (i : Nat) (d : D) acc, PL ds → ds[i]? = some d → Inv ds i acc → ∃ Γ', DG K g is d (wipeG Γ vs) Γ' ∧ ∃ Pb : Bool → Prop, DT K tt Γ' n1 Pb ∧ (Pb true → DF K te Γ' n2 (fun e => Inv ds (i + 1) (acc ++ [e]))) ∧ (Pb false → Inv ds (i + 1) acc))
    (hd : ∀ ds acc, PL ds → Inv ds ds.length acc → P (.lst acc)) : DW K (tLc wi g tt te vs) Γ (n + L * (n1 + n2)) P := by
  intro m B H σ le sg Q k
  refine hi (m + L * (n1 + n2)) B H σ (le.mono (by omega)) sg _ fun J B1 H1 ds g1 le1 wk pl Dd hDd => ?_
  have hl := hlen ds pl
  have hm : ds.length * (n1 + n2) ≤ L * (n1 + n2) := Nat.mul_le_mul_right _ hl
  refine ⟨fun i mm Hx => mm = ds.length - i ∧ i ≤ ds.length ∧ ∃ Bx acc, Go B1 H1 Bx Hx ∧ Le (m + (ds.length - i) * (n1 + n2)) Bx Hx ∧ Own K Bx Hx Dd (.lst acc) ∧ Inv ds i acc ∧ acc.length ≤ i, ⟨ds.length, ?_⟩, ?_⟩
  · obtain ⟨g2, le2, ho⟩ := new_lst le1 hDd (.nil : IsL K B1 [] [])
    exact ⟨rfl, Nat.zero_le _, B1, [], g2, le2.mono (by rw [Nat.sub_zero]; omega), ho, h0 ds pl, Nat.zero_le _⟩
  · rintro i mm Hx ⟨rfl, hil, Bx, acc, gx, lex, own, inv, hacc⟩
    by_cases hi2 : i < ds.length
    · refine .inr ⟨wk.go _ Bx Hx i gx.gz lex hi2, fun Hn => (fun i mm Hx => mm = ds.length - i ∧ i ≤ ds.length ∧ ∃ Bx acc, Go B1 H1 Bx Hx ∧ Le (m + (ds.length - i) * (n1 + n2)) Bx Hx ∧ Own K Bx Hx Dd (.lst acc) ∧ Inv ds i acc ∧ acc.length ≤ i) (i + 1) (ds.length - (i + 1)) Hn, fun H' q => ⟨_, by omega, q⟩, fun x H' hy => ?_⟩
      obtain ⟨B2, d, hd2, g2, le2, hi3⟩ := wk.yld _ Bx Hx i x H' gx.gz lex hi2 hy
      obtain ⟨Γ', dg, Pb, dt, h1, h2⟩ := hs ds i d acc pl hd2 inv
      have g12 := g1.trans (gx.trans g2)
      refine dg _ _ _ B2 H' _ x (at_any le2 ((sg.go g12).wipe vs)) hi3 _ fun σ' a' ag hlen' => ⟨?_, ?_⟩
      · rw [wipe_eq hlen' fun j hj => ag j fun q => hj (hsub j q)]
        exact wipe_eq (wipe_length σ vs) fun j hj => wipe_out hj
      · have eb : (ds.length - i) * (n1 + n2) = (ds.length - (i + 1)) * (n1 + n2) + (n1 + n2) := mul_step hi2
        refine dt (m + (ds.length - (i + 1)) * (n1 + n2) + n2) B2 H' σ' (a'.le.mono (by omega)) a'.sg _ fun b B3 H3 g3 le3 pb => ?_
        have own3 := own.go (g2.trans g3)
        cases b with
        | false =>
          refine iteF ⟨rfl, by omega, B3, acc, gx.trans (g2.trans g3), le3.mono (by omega), own3, h2 pb, by omega⟩
        | true =>
          refine iteT (h1 pb (m + (ds.length - (i + 1)) * (n1 + n2)) B3 H3 σ' (le3.mono (by omega)) (a'.sg.go g3) _ fun y B4 H4 e g4 le4 hi4 inv' => ?_)
          obtain ⟨hb4, vacc, ea, r⟩ := own3.go g4
          refine ⟨vacc, ea, by rw [r.length, sizeLine_eq]; omega, rfl, by omega, B4, acc ++ [e], ?_⟩
          obtain ⟨g5, le5⟩ := own_change (o := .lst (vacc ++ [y])) (gx.trans (g2.trans (g3.trans g4))) hDd le4 hb4
          exact ⟨g5, le5, ⟨hb4, _, upd_same, r.snoc hi4⟩, inv', by rw [List.length_append, List.length_singleton]; omega⟩
    · have e : i = ds.length := by omega
      subst e
      refine .inl ⟨wk.stop _ Bx Hx gx.gz lex, k Dd Bx Hx _ (g1.trans gx) (lex.mono (by omega)) (new_of g1 le1 hDd) own (hd ds acc pl inv)⟩
theorem take_succ {α : Type} {l : List α} {i : Nat} {x : α} (h : l[i]? = some x) : l.take (i + 1) = l.take i ++ [x] := by
  rw [List.take_succ, h]; rfl
theorem ew_lc {ds : List D} {p : D → Bool} {f : D → D} (hi : DI K wi Γ n (· = ds)) (hlen : ds.length ≤ 16000000) (hsub : ∀ j ∈ is, j ∈ vs)
    (hs : ∀ (i : Nat) (d : D), ds[i]? = some d → ∃ Γ', DG K g is d (wipeG Γ vs) Γ' ∧ DT K tt Γ' 0 (· = p d) ∧ (p d = true → DF K te Γ' 0 (· = f d))) : DW K (tLc wi g tt te vs) Γ n (· = .lst ((ds.filter p).map f)) := by
  have h := w_lc (K := K) (P := (· = .lst ((ds.filter p).map f))) (n1 := 0) (n2 := 0) (L := 16000000) (fun ds i acc => acc = ((ds.take i).filter p).map f) hi (fun _ e => by rw [e]; exact hlen) (Nat.le_refl _) hsub (fun _ _ => rfl)
    (fun ds' i d acc e hd ha => by
      subst e
      obtain ⟨Γ', dg, dt, hf⟩ := hs i d hd
      refine ⟨Γ', dg, _, dt, fun q => (hf q.symm).imp fun e' he => ?_, fun q => ?_⟩
      · rw [he, ha, take_succ hd, List.filter_append, List.map_append]
        congr 1
        rw [List.filter_cons, if_pos q.symm]; rfl
      · rw [ha, take_succ hd, List.filter_append, List.map_append]
        rw [List.filter_cons, if_neg (by rw [← q]; exact Bool.false_ne_true)]
        simp)
    (fun ds' acc e ha => by subst e; rw [ha, List.take_length])
  exact h.le (by omega)
/-- without a test -/
theorem ew_map {ds : List D} {f : D → D} (hi : DI K wi Γ n (· = ds)) (hlen : ds.length ≤ 16000000) (hsub : ∀ j ∈ is, j ∈ vs)
    (hs : ∀ (i : Nat) (d : D), ds[i]? = some d → ∃ Γ', DG K g is d (wipeG Γ vs) Γ' ∧ DF K te Γ' 0 (· = f d)) : DW K (tLc wi g tYes te vs) Γ n (· = .lst (ds.map f)) := by
  have h := ew_lc (tt := tYes) (p := fun _ => true) (f := f) hi hlen hsub fun i d hd => by
    obtain ⟨Γ', dg, hf⟩ := hs i d hd
    exact ⟨Γ', dg, t_yes, fun _ => hf⟩
  exact h.cast (by rw [List.filter_eq_self.mpr fun _ _ => rfl])
/-- element by element, each of its own property -/
inductive Alls (R : D → D → Prop) : List D → List D → Prop
  | nil : Alls R [] []
  | cons {x y : D} {xs ys : List D} : R x y → Alls R xs ys → Alls R (x :: xs) (y :: ys)
theorem Alls.snoc {R : D → D → Prop} {x y : D} : ∀ {xs ys : List D}, Alls R xs ys → R x y → Alls R (xs ++ [x]) (ys ++ [y])
  | _, _, .nil, h => .cons h .nil
  | _, _, .cons a r, h => .cons a (r.snoc h)
theorem Alls.length {R : D → D → Prop} : ∀ {xs ys : List D}, Alls R xs ys → xs.length = ys.length
  | _, _, .nil => rfl
  | _, _, .cons _ r => congrArg (· + 1) r.length
theorem w_map {L : Nat} {PL : List D → Prop} {R : D → D → Prop} (hi : DI K wi Γ n PL) (hlen : ∀ ds, PL ds → ds.length ≤ L) (hL : L ≤ 16000000) (hsub : ∀ j ∈ is, j ∈ vs)
    (hs : ∀ (ds : List D) (i : Nat) (d : D), PL ds → ds[i]? = some d → ∃ Γ', DG K g is d (wipeG Γ vs) Γ' ∧ DF K te Γ' n2 (R d)) : DW K (tLc wi g tYes te vs) Γ (n + L * n2) (fun r => ∃ ds es, PL ds ∧ r = .lst es ∧ Alls R ds es) := by
  have h := w_lc (K := K) (P := (fun r => ∃ ds es, PL ds ∧ r = .lst es ∧ Alls R ds es)) (tt := tYes) (n1 := 0) (n2 := n2) (L := L) (fun ds i acc => Alls R (ds.take i) acc) hi hlen hL hsub (fun _ _ => .nil)
    (fun ds' i d acc pl hd ha => by
      obtain ⟨Γ', dg, hf⟩ := hs ds' i d pl hd
      refine ⟨Γ', dg, (· = true), t_yes, fun _ => hf.imp fun e' he => ?_, fun q => nomatch q⟩
      rw [take_succ hd]; exact ha.snoc he)
    (fun ds' acc pl ha => ⟨ds', acc, pl, rfl, by rw [List.take_length] at ha; exact ha⟩)
  exact h.le (by rw [Nat.zero_add]; exact Nat.le_refl _)
/-! ### dict comprehensions -/
variable {tk tv : TE}
theorem w_dc {L : Nat} {PL : List D → Prop} (Inv : List D → Nat → List (Key × D) → Prop) (hi : DI K wi Γ n PL) (hlen : ∀ ds, PL ds → ds.length ≤ L) (hL : L ≤ 16000000) (hsub : ∀ j ∈ is, j ∈ vs) (h0 : ∀ ds, PL ds → Inv ds 0 [])
    (hs : ∀ (ds : List D) (i : Nat) (d : D) acc, PL ds → ds[i]? = some d → Inv ds i acc → ∃ Γ', DG K g is d (wipeG Γ vs) Γ' ∧ ∃ Pb : Bool → Prop, DT K tt Γ' n1 Pb ∧ (Pb true → ∃ Pk : Key → Prop, DF K tk Γ' n2 (fun e => ∃ q, keyD e = some q ∧ Pk q) ∧ ∀ q, Pk q → DF K tv Γ' n3 (fun e => Inv ds (i + 1) (putD acc q e))) ∧ (Pb false → Inv ds (i + 1) acc))
    (hd : ∀ ds acc, PL ds → Inv ds ds.length acc → P (.dK acc)) : DW K (tDc wi g tt tk tv vs) Γ (n + L * (n1 + n2 + n3)) P := by
  intro m B H σ le sg Q k
  refine hi (m + L * (n1 + n2 + n3)) B H σ (le.mono (by omega)) sg _ fun J B1 H1 ds g1 le1 wk pl Dd hDd => ?_
  have hl := hlen ds pl
  have hm : ds.length * (n1 + n2 + n3) ≤ L * (n1 + n2 + n3) := Nat.mul_le_mul_right _ hl
  refine ⟨fun i mm Hx => mm = ds.length - i ∧ i ≤ ds.length ∧ ∃ Bx acc, Go B1 H1 Bx Hx ∧ Le (m + (ds.length - i) * (n1 + n2 + n3)) Bx Hx ∧ Own K Bx Hx Dd (.dK acc) ∧ Inv ds i acc ∧ acc.length ≤ i, ⟨ds.length, ?_⟩, ?_⟩
  · obtain ⟨g2, le2, ho⟩ := new_dK le1 hDd (.nil : IsK K B1 [] [])
    exact ⟨rfl, Nat.zero_le _, B1, [], g2, le2.mono (by rw [Nat.sub_zero]; omega), ho, h0 ds pl, Nat.zero_le _⟩
  · rintro i mm Hx ⟨rfl, hil, Bx, acc, gx, lex, own, inv, hacc⟩
    by_cases hi2 : i < ds.length
    · refine .inr ⟨wk.go _ Bx Hx i gx.gz lex hi2, fun Hn => (fun i mm Hx => mm = ds.length - i ∧ i ≤ ds.length ∧ ∃ Bx acc, Go B1 H1 Bx Hx ∧ Le (m + (ds.length - i) * (n1 + n2 + n3)) Bx Hx ∧ Own K Bx Hx Dd (.dK acc) ∧ Inv ds i acc ∧ acc.length ≤ i) (i + 1) (ds.length - (i + 1)) Hn, fun H' q => ⟨_, by omega, q⟩, fun x H' hy => ?_⟩
      obtain ⟨B2, d, hd2, g2, le2, hi3⟩ := wk.yld _ Bx Hx i x H' gx.gz lex hi2 hy
      obtain ⟨Γ', dg, Pb, dt, h1, h2⟩ := hs ds i d acc pl hd2 inv
      have g12 := g1.trans (gx.trans g2)
      refine dg _ _ _ B2 H' _ x (at_any le2 ((sg.go g12).wipe vs)) hi3 _ fun σ' a' ag hlen' => ⟨?_, ?_⟩
      · rw [wipe_eq hlen' fun j hj => ag j fun q => hj (hsub j q)]
        exact wipe_eq (wipe_length σ vs) fun j hj => wipe_out hj
      · have eb : (ds.length - i) * (n1 + n2 + n3) = (ds.length - (i + 1)) * (n1 + n2 + n3) + (n1 + n2 + n3) := mul_step hi2
        refine dt (m + (ds.length - (i + 1)) * (n1 + n2 + n3) + n2 + n3) B2 H' σ' (a'.le.mono (by omega)) a'.sg _ fun b B3 H3 g3 le3 pb => ?_
        have own3 := own.go (g2.trans g3)
        cases b with
        | false =>
          refine iteF ⟨rfl, by omega, B3, acc, gx.trans (g2.trans g3), le3.mono (by omega), own3, h2 pb, by omega⟩
        | true =>
          obtain ⟨Pk, dk, dv⟩ := h1 pb
          refine iteT (dk (m + (ds.length - (i + 1)) * (n1 + n2 + n3) + n3) B3 H3 σ' (le3.mono (by omega)) (a'.sg.go g3) _ fun y B4 H4 e g4 le4 hi4 ⟨q, hq, pk⟩ => ?_)
          refine dv q pk (m + (ds.length - (i + 1)) * (n1 + n2 + n3)) B4 H4 σ' (le4.mono (by omega)) (a'.sg.go (g3.trans g4)) _ fun z B5 H5 e5 g5 le5 hi5 inv' => ?_
          obtain ⟨hb5, vacc, ea, r⟩ := own3.go (g4.trans g5)
          refine ⟨vacc, q, keyD_v (B := B4) (H := H4) hq (.inl hi4), ea, by rw [r.length, sizeLine_eq]; omega, rfl, by omega, B5, putD acc q e5, ?_⟩
          obtain ⟨g6, le6⟩ := own_change (o := .dK (putK vacc q z)) (gx.trans (g2.trans (g3.trans (g4.trans g5)))) hDd le5 hb5
          have hpl : (putD acc q e5).length ≤ acc.length + 1 := by
            unfold putD
            split
            · rw [List.length_map]; omega
            · rw [List.length_append]; exact Nat.le_refl _
          exact ⟨g6, le6, ⟨hb5, _, upd_same, r.put q hi5⟩, inv', by omega⟩
    · have e : i = ds.length := by omega
      subst e
      refine .inl ⟨wk.stop _ Bx Hx gx.gz lex, k Dd Bx Hx _ (g1.trans gx) (lex.mono (by omega)) (new_of g1 le1 hDd) own (hd ds acc pl inv)⟩
theorem nd_ix {α : Type} : ∀ {l : List α} {i j : Nat} {x : α}, l.Nodup → l[i]? = some x → l[j]? = some x → i = j
  | [], _, _, _, _, h, _ => by cases h
  | y :: l, 0, 0, _, _, _, _ => rfl
  | y :: l, 0, j + 1, x, hn, h1, h2 => by
    injection h1 with h1; subst h1
    exact ((List.nodup_cons.mp hn).1 (List.mem_of_getElem? h2)).elim
  | y :: l, i + 1, 0, x, hn, h1, h2 => by
    injection h2 with h2; subst h2
    exact ((List.nodup_cons.mp hn).1 (List.mem_of_getElem? h1)).elim
  | y :: l, i + 1, j + 1, x, hn, h1, h2 => congrArg (· + 1) (nd_ix (List.nodup_cons.mp hn).2 h1 h2)
theorem putD_new {kvs : List (Key × D)} {k : Key} {v : D} (h : k ∉ kvs.map (·.1)) : putD kvs k v = kvs ++ [(k, v)] := by
  unfold putD
  rw [if_neg]
  intro q
  obtain ⟨p, hp, e⟩ := List.any_eq_true.mp q
  exact h (List.mem_map.mpr ⟨p, hp, of_decide_eq_true e⟩)
/-- all keys different -/
theorem ew_dc {ds : List D} {kf : D → Key} {f : D → D} (hi : DI K wi Γ n (· = ds)) (hlen : ds.length ≤ 16000000) (hsub : ∀ j ∈ is, j ∈ vs) (hnd : (ds.map kf).Nodup)
    (hs : ∀ (i : Nat) (d : D), ds[i]? = some d → ∃ Γ', DG K g is d (wipeG Γ vs) Γ' ∧ DF K tk Γ' 0 (fun e => keyD e = some (kf d)) ∧ DF K tv Γ' 0 (· = f d)) : DW K (tDc wi g tYes tk tv vs) Γ n (· = .dK (ds.map fun d => (kf d, f d))) := by
  have h := w_dc (K := K) (P := (· = .dK (ds.map fun d => (kf d, f d)))) (tt := tYes) (n1 := 0) (n2 := 0) (n3 := 0) (L := 16000000) (fun ds i acc => acc = (ds.take i).map fun d => (kf d, f d)) hi (fun _ e => by rw [e]; exact hlen) (Nat.le_refl _) hsub (fun _ _ => rfl)
    (fun ds' i d acc e hd ha => by
      subst e
      obtain ⟨Γ', dg, dk, dv⟩ := hs i d hd
      refine ⟨Γ', dg, (· = true), t_yes, fun _ => ⟨(· = kf d), dk.imp fun e he => ⟨_, he, rfl⟩, fun q hq => dv.imp fun e he => ?_⟩, fun q => nomatch q⟩
      rw [hq, he, ha, putD_new, take_succ hd, List.map_append]
      · rfl
      · rw [List.map_map]
        intro hm
        obtain ⟨x, hx, ex⟩ := List.mem_map.mp hm
        obtain ⟨j, hj, ej⟩ := List.getElem_of_mem hx
        have hj' : j < i := by
          rw [List.length_take] at hj; omega
        have e1 : (ds'.map kf)[j]? = some (kf d) := by
          rw [List.getElem?_map]
          have : ds'[j]? = some x := by rw [← ej, List.getElem_take]; exact List.getElem?_eq_getElem _
          rw [this]; exact congrArg some ex
        have e2 : (ds'.map kf)[i]? = some (kf d) := by rw [List.getElem?_map, hd]; rfl
        have := nd_ix hnd e1 e2
        omega)
    (fun ds' acc e ha => by subst e; rw [ha, List.take_length])
  exact DW.le h (Nat.le_of_eq (by simp))
end
end DL
set_option Elab.async false
set_option linter.all false
set_option maxRecDepth 100000
set_option maxHeartbeats 2000000
/-! DL, part j: statements, the entry of a def. -/
namespace DL
open PySem L2
section
variable [Wld] {K : PySem.W.Frag} {m n n1 n2 n3 : Nat} {d x y z : D} {Γ Γ' : Gm} {te ta tb tc : TE} {t u : TS} {tt : TT} {P P1 P2 P3 : D → Prop} {R : Posts}
/-! ### the loop's own entry -/
open Classical in
/-- the heap without what is owned here -/
noncomputable def sans (H : Hp) (σ : L2.St) (Γ : Gm) : Hp := fun a => if ∃ (i : Nat) (d : D) (p : Addr → Prop), Γ[i]? = some (Sl.ow d p) ∧ σ[i]? = some (some (V.ref a)) then none else H a
theorem At.rebase {B0 B : Kn} {H0 H : Hp} {σ : L2.St} (s : At K B0 H0 m B H σ Γ) : At K B (sans H σ Γ) m B H σ Γ ∧ Gz B H B (sans H σ Γ) := by
  have hz : ∀ a o u, H a = some (.frz o u) → sans H σ Γ a = some (.frz o u) := fun a o u e => by
    unfold sans
    rw [if_neg]
    · exact e
    · rintro ⟨i, d, p, h1, h2⟩
      obtain ⟨b, h3, h4, _⟩ := s.sg.mt i d p h1
      rw [h2] at h3; cases h3
      cases d <;> first | exact h4.elim | (obtain ⟨_, _, q, _⟩ := h4; rw [e] at q; cases q) | (obtain ⟨_, _, _, q, _⟩ := h4; rw [e] at q; cases q)
  have hs : ∀ a o, sans H σ Γ a = some o → H a = some o := fun a o e => by
    unfold sans at e
    split at e
    · cases e
    · exact e
  exact ⟨⟨⟨fun _ _ h => h, fun a o e k => ⟨hs a o e, k⟩, fun a o u e => hs a _ e⟩, s.le, s.sg, fun i d p a h1 h2 => by unfold sans; rw [if_pos ⟨i, d, p, h1, h2⟩]⟩, ⟨fun _ _ h => h, hz⟩⟩
/-- back to the entry of the def -/
theorem At.outer {B0 B1 B2 : Kn} {H0 H1 H2 : Hp} {σ σ2 : L2.St} {m2 : Nat} {Γ2 : Gm} (s : At K B0 H0 m B1 H1 σ Γ) (e : At K B1 (sans H1 σ Γ) m2 B2 H2 σ2 Γ2) : At K B0 H0 m2 B2 H2 σ2 Γ2 := by
  have g1 : Go B0 H0 B1 (sans H1 σ Γ) := by
    refine ⟨s.go.b, fun a o e0 k => ?_, fun a o u e0 => s.rebase.2.z a o u (s.go.z a o u e0)⟩
    obtain ⟨q1, q2⟩ := s.go.h a o e0 k
    refine ⟨?_, q2⟩
    unfold sans
    rw [if_neg]
    · exact q1
    · rintro ⟨i, d, p, h1, h2⟩
      rw [s.fr i d p a h1 h2] at e0; cases e0
  refine ⟨g1.trans e.go, e.le, e.sg, fun i d p a h1 h2 => ?_⟩
  have n1 := e.fr i d p a h1 h2
  cases q : H0 a with
  | none => rfl
  | some o =>
    exfalso
    cases z : B0 a with
    | none => rw [(g1.h a o q z).1] at n1; cases n1
    | some f =>
      have w := e.go.b a f (g1.b a f z)
      obtain ⟨b, h3, h4, _⟩ := e.sg.mt i d p h1
      rw [h2] at h3; cases h3
      rw [h4.none] at w; cases w
theorem EOk.inner {B0 B1 : Kn} {H0 H1 : Hp} {σ : L2.St} {E : Ends} (s : At K B0 H0 m B1 H1 σ Γ) (ok : EOk K B0 H0 E R) : EOk K B1 (sans H1 σ Γ) E R := by
  have g1 : ∀ {m2 B2 H2}, Go B1 (sans H1 σ Γ) B2 H2 → Le m2 B2 H2 → Go B0 H0 B2 H2 := fun {m2 B2 H2} g le => by
    have a0 : At K B1 (sans H1 σ Γ) m2 B2 H2 [] [] := ⟨g, le, ⟨rfl, fun i d h => by simp at h, fun i d p h => by simp at h, fun i j a d e p q h => by simp at h⟩, fun i d p a h => by simp at h⟩
    exact (s.outer a0).go
  refine ⟨fun m B H σ Γ a r => ok.nx m B H σ Γ (s.outer a) r, fun m B H σ Γ a r => ok.bk m B H σ Γ (s.outer a) r, fun m B H σ Γ a r => ok.ct m B H σ Γ (s.outer a) r, fun m B H v d g le h r => ok.rt m B H v d (g1 g le) le h r, fun m2 B H a d g le hn h r => ok.rw m2 B H a d (g1 g le) le ?_ h r⟩
  cases q : H0 a with
  | none => rfl
  | some o =>
    exfalso
    have g0 := g1 g le
    cases z : B0 a with
    | none =>
      have a0 : At K B1 (sans H1 σ Γ) m B1 H1 σ Γ := s.rebase.1
      have w := s.go.h a o q z
      have : sans H1 σ Γ a = some o := by
        unfold sans
        rw [if_neg]
        · exact w.1
        · rintro ⟨i, d, p, h1, h2⟩
          rw [s.fr i d p a h1 h2] at q; cases q
      rw [this] at hn; cases hn
    | some f =>
      have w := g0.b a f z
      rw [h.none] at w; cases w
/-! ### the statements -/
theorem DS.imp {R' : Posts} (h : DS K t Γ m R) (i1 : ∀ Γ m, R.nx Γ m → R'.nx Γ m) (i2 : ∀ d m, R.rt d m → R'.rt d m) (i3 : ∀ d m, R.rw d m → R'.rw d m) (i4 : ∀ Γ m, R.bk Γ m → R'.bk Γ m) (i5 : ∀ Γ m, R.ct Γ m → R'.ct Γ m) : DS K t Γ m R' :=
  fun B0 H0 B H σ E a ok => h B0 H0 B H σ E a ⟨fun m B H σ Γ a r => ok.nx m B H σ Γ a (i1 _ _ r), fun m B H σ Γ a r => ok.bk m B H σ Γ a (i4 _ _ r), fun m B H σ Γ a r => ok.ct m B H σ Γ a (i5 _ _ r), fun m B H v d g le h r => ok.rt m B H v d g le h (i2 _ _ r), fun m B H a d g le hn h r => ok.rw m B H a d g le hn h (i3 _ _ r)⟩
theorem s_next (h : R.nx Γ m) : DS K tNext Γ m R := fun B0 H0 B H σ E a ok => ok.nx m B H σ Γ a h
theorem s_brk (h : R.bk Γ m) : DS K tBreak Γ m R := fun B0 H0 B H σ E a ok => ok.bk m B H σ Γ a h
theorem s_cont (h : R.ct Γ m) : DS K tCont Γ m R := fun B0 H0 B H σ E a ok => ok.ct m B H σ Γ a h
theorem s_seq (h : DS K t Γ m { R with nx := fun Γ' m' => DS K u Γ' m' R }) : DS K (tSeq t u) Γ m R :=
  fun B0 H0 B H σ E a ok => h B0 H0 B H σ _ a ⟨fun m B H σ Γ a r => r B0 H0 B H σ E a ok, ok.bk, ok.ct, ok.rt, ok.rw⟩
/-- the slot's new content -/
def SlOk (K : PySem.W.Frag) (B' : Kn) (H' H : Hp) (v : V) : Sl → Prop
  | .no => False
  | .val d => Is K B' v d
  | .ow d p => ∃ a, v = .ref a ∧ H a = none ∧ Own K B' H' a d ∧ p a
theorem At.setSl {B0 B B' : Kn} {H0 H H' : Hp} {m' : Nat} {σ : L2.St} {v : V} {s : Sl} (a : At K B0 H0 m B H σ Γ) (g : Go B H B' H') (le : Le m' B' H') (i : Nat) (h : SlOk K B' H' H v s) : At K B0 H0 m' B' H' (σ.set i (some v)) (Γ.set i s) := by
  cases s with
  | no => exact h.elim
  | val d => exact (a.step g le).setVal i h
  | ow d p => obtain ⟨b, rfl, hn, ho, hp⟩ := h; exact a.setMut g le i hn ho hp
/-- data or a new owned thing -/
def DV (K : PySem.W.Frag) (t : TE) (Γ : Gm) (n : Nat) (P : Sl → Prop) : Prop :=
  ∀ m B H σ, Le (m + n) B H → Sg K B H σ Γ → ∀ Q : VK, (∀ v B' H' s, Go B H B' H' → Le m B' H' → SlOk K B' H' H v s → P s → Q v H') → t σ H Q
theorem DF.v (h : DF K te Γ n P) : DV K te Γ n (fun s => ∃ d, s = .val d ∧ P d) := fun m B H σ le sg Q k => h m B H σ le sg Q fun v B' H' d g le' hi p => k v B' H' (.val d) g le' hi ⟨d, rfl, p⟩
theorem DW.v (h : DW K te Γ n P) : DV K te Γ n (fun s => ∃ d, s = .ow d ∧ P d) := fun m B H σ le sg Q k => h m B H σ le sg Q fun a B' H' d g le' hn ho p => k _ B' H' (.ow d) g le' ⟨a, rfl, hn, ho, trivial⟩ ⟨d, rfl, p⟩
theorem s_setV {PS : Sl → Prop} {i : Nat} (h : DV K te Γ n PS) (k : ∀ s, PS s → R.nx (Γ.set i s) m) : DS K (tAsg te (gName i)) Γ (m + n) R :=
  fun B0 H0 B H σ E a ok => h m B H σ a.le a.sg _ fun v B' H' s g le hs p => ok.nx m B' H' _ _ (a.setSl g le i hs) (k s p)
theorem s_set {i : Nat} (h : DF K te Γ n P) (k : ∀ d, P d → R.nx (Γ.set i (.val d)) m) : DS K (tAsg te (gName i)) Γ (m + n) R :=
  s_setV h.v fun s ⟨d, e, p⟩ => e ▸ k d p
theorem s_setW {i : Nat} (h : DW K te Γ n P) (k : ∀ d, P d → R.nx (Γ.set i (.ow d)) m) : DS K (tAsg te (gName i)) Γ (m + n) R :=
  s_setV h.v fun s ⟨d, e, p⟩ => e ▸ k d p
/-- of one value -/
theorem es_set {i : Nat} (h : DF K te Γ 0 (· = d)) (k : R.nx (Γ.set i (.val d)) m) : DS K (tAsg te (gName i)) Γ m R := s_set (n := 0) h fun _ e => e ▸ k
theorem es_setW {i : Nat} (h : DW K te Γ 0 (· = d)) (k : R.nx (Γ.set i (.ow d)) m) : DS K (tAsg te (gName i)) Γ m R := s_setW (n := 0) h fun _ e => e ▸ k
theorem s_tgt {g : TG} (h : DF K te Γ n P) (k : ∀ d, P d → ∃ is Γ', DG K g is d Γ Γ' ∧ R.nx Γ' m) : DS K (tAsg te g) Γ (m + n) R :=
  fun B0 H0 B H σ E a ok => h m B H σ a.le a.sg _ fun v B' H' d gg le hs p => by
    obtain ⟨is, Γ', dg, r⟩ := k d p
    exact dg B0 H0 m B' H' σ v (a.step gg le) hs _ fun σ' a' _ _ => ok.nx m B' H' σ' Γ' a' r
theorem s_par {i j : Nat} {S1 S2 : Sl → Prop} (h1 : DV K ta Γ n1 S1) (h2 : DV K tb Γ n2 S2) (k : ∀ s1 s2, S1 s1 → S2 s2 → R.nx ((Γ.set i s1).set j s2) m) : DS K (tPar i j (tCons ta (tCons tb tNil))) Γ (m + n1 + n2) R := by
  intro B0 H0 B H σ E a ok
  refine h1 (m + n2) B H σ (a.le.mono (by omega)) a.sg _ fun v B1 H1 s1 g1 le1 hs1 p1 => ?_
  have a1 := (a.step g1 le1)
  refine h2 m B1 H1 σ le1 a1.sg _ fun w B2 H2 s2 g2 le2 hs2 p2 => ⟨v, w, rfl, ?_⟩
  exact ok.nx m B2 H2 _ _ ((a.setSl g1 le1 i hs1).setSl g2 le2 j hs2) (k s1 s2 p1 p2)
theorem s_par3 {i j l : Nat} {S1 S2 S3 : Sl → Prop} (h1 : DV K ta Γ n1 S1) (h2 : DV K tb Γ n2 S2) (h3 : DV K tc Γ n3 S3) (k : ∀ s1 s2 s3, S1 s1 → S2 s2 → S3 s3 → R.nx (((Γ.set i s1).set j s2).set l s3) m) : DS K (tPar3 i j l (tCons ta (tCons tb (tCons tc tNil)))) Γ (m + n1 + n2 + n3) R := by
  intro B0 H0 B H σ E a ok
  refine h1 (m + n2 + n3) B H σ (a.le.mono (by omega)) a.sg _ fun v B1 H1 s1 g1 le1 hs1 p1 => ?_
  have a1 := (a.step g1 le1)
  refine h2 (m + n3) B1 H1 σ (le1.mono (by omega)) a1.sg _ fun w B2 H2 s2 g2 le2 hs2 p2 => ?_
  have a2 := (a1.step g2 le2)
  refine h3 m B2 H2 σ le2 a2.sg _ fun w3 B3 H3 s3 g3 le3 hs3 p3 => ⟨v, w, w3, rfl, ?_⟩
  exact ok.nx m B3 H3 _ _ (((a.setSl g1 le1 i hs1).setSl g2 le2 j hs2).setSl g3 le3 l hs3) (k s1 s2 s3 p1 p2 p3)
theorem s_ret (h : DF K te Γ n P) (k : ∀ d, P d → R.rt d m) : DS K (tRet te) Γ (m + n) R :=
  fun B0 H0 B H σ E a ok => h m B H σ a.le a.sg _ fun v B' H' d g le hs p => ok.rt m B' H' v d (a.go.trans g) le hs (k d p)
theorem s_retW (h : DW K te Γ n P) (k : ∀ d, P d → R.rw d m) : DS K (tRet te) Γ (m + n) R :=
  fun B0 H0 B H σ E a ok => h m B H σ a.le a.sg _ fun v B' H' d g le hn hs p => ok.rw m B' H' v d (a.go.trans g) le (new_of a.go a.le hn) hs (k d p)
/-- an owned slot is given back as owned -/
theorem s_retO {i : Nat} {p : Addr → Prop} (e : Γ[i]? = some (.ow d p)) (k : R.rw d m) : DS K (tRet (tVar i)) Γ m R := by
  intro B0 H0 B H σ E a ok
  obtain ⟨b, h1, h2, _⟩ := a.sg.mt i d p e
  exact ⟨_, h1, ok.rw m B H b d a.go a.le (a.fr i d p b e h1) h2 k⟩
theorem es_ret (h : DF K te Γ 0 (· = d)) (k : R.rt d m) : DS K (tRet te) Γ m R := s_ret (n := 0) h fun _ e => e ▸ k
theorem es_retW (h : DW K te Γ 0 (· = d)) (k : R.rw d m) : DS K (tRet te) Γ m R := s_retW (n := 0) h fun _ e => e ▸ k
theorem s_retN (k : R.rt .non m) : DS K tRetN Γ m R := fun B0 H0 B H σ E a ok => ok.rt m B H .non .non a.go a.le .non k
theorem s_if {Pb : Bool → Prop} (h : DT K tt Γ n Pb) (h1 : Pb true → DS K t Γ m R) (h2 : Pb false → DS K u Γ m R) : DS K (tIfS tt t u) Γ (m + n) R :=
  fun B0 H0 B H σ E a ok => h m B H σ a.le a.sg _ fun b B' H' g le p => by
    cases b with
    | true => exact iteT (h1 p B0 H0 B' H' σ E (a.step g le) ok)
    | false => exact iteF (h2 p B0 H0 B' H' σ E (a.step g le) ok)
theorem es_if {b : Bool} (h : DT K tt Γ 0 (· = b)) (h1 : b = true → DS K t Γ m R) (h2 : b = false → DS K u Γ m R) : DS K (tIfS tt t u) Γ m R := s_if (n := 0) h (fun e => h1 e.symm) (fun e => h2 e.symm)
theorem s_freeze {p : Addr → Prop} (i : Nat) (e : Γ[i]? = some (.ow d p)) (h : DS K t (Γ.set i (.val d)) m R) : DS K t Γ m R := by
  intro B0 H0 B H σ E a ok
  obtain ⟨B', a'⟩ := a.freeze e
  exact h B0 H0 B' H σ E a' ok
/-- draws are given up -/
theorem s_less {m' : Nat} (hm : m' ≤ m) (h : DS K t Γ m' R) : DS K t Γ m R := fun B0 H0 B H σ E a ok => h B0 H0 B H σ E ⟨a.go, a.le.mono hm, a.sg, a.fr⟩ ok
theorem s_drop (h : DF K te Γ n P) (k : ∀ d, P d → R.nx Γ m) : DS K (tDrop te) Γ (m + n) R :=
  fun B0 H0 B H σ E a ok => h m B H σ a.le a.sg _ fun v B' H' d g le hs p => ok.nx m B' H' σ Γ (a.step g le) (k d p)
theorem size_lt {k : Nat} (h : k < 16000000) : k < sizeLine := by rw [sizeLine_eq]; omega
/-- xs.append(..), xs owned -/
theorem s_app {i : Nat} {xs : List D} {p : Addr → Prop} (e : Γ[i]? = some (.ow (.lst xs) p)) (hl : xs.length < 16000000) (h : DF K te Γ n P) (k : ∀ d, P d → R.nx (Γ.set i (.ow (.lst (xs ++ [d])) p)) m) : DS K (tDrop (tBM K "list" rAppend (tVar i) (tCons te tNil))) Γ (m + n) R := by
  intro B0 H0 B H σ E a ok
  obtain ⟨b, h1, h2, _⟩ := a.sg.mt i _ p e
  obtain ⟨_, vs, h3, h4⟩ := id h2
  refine ⟨_, h1, .inl ⟨rfl, _, SqL.of h3⟩, h m B H σ a.le a.sg _ fun v B' H' d g le hi pd => ?_⟩
  obtain ⟨hb, vs, h3, h4⟩ := h2.go g
  refine ⟨b, vs, v, rfl, rfl, h3, size_lt (by rw [h4.length]; exact hl), ?_⟩
  exact ok.nx m B' _ σ _ ((a.step g le).change e h1 (d := .lst (xs ++ [d])) ⟨hb, _, upd_same, h4.snoc hi⟩) (k d pd)
theorem es_app {i : Nat} {xs : List D} {p : Addr → Prop} (e : Γ[i]? = some (.ow (.lst xs) p)) (hl : xs.length < 16000000) (h : DF K te Γ 0 (· = d)) (k : R.nx (Γ.set i (.ow (.lst (xs ++ [d])) p)) m) : DS K (tDrop (tBM K "list" rAppend (tVar i) (tCons te tNil))) Γ m R :=
  s_app (n := 0) e hl h fun _ e => e ▸ k
/-- d[k] = v, d owned -/
theorem s_put {i : Nat} {kvs : List (Key × D)} {p : Addr → Prop} (e : Γ[i]? = some (.ow (.dK kvs) p)) (hl : kvs.length < 16000000) (hv : DF K ta Γ n1 P1) (hk : DF K tb Γ n2 P2) (k : ∀ x y, P1 x → P2 y → ∃ q, keyD y = some q ∧ R.nx (Γ.set i (.ow (.dK (putD kvs q x)) p)) m) : DS K (sDPut (tVar i) tb ta) Γ (m + n1 + n2) R := by
  intro B0 H0 B H σ E a ok
  refine hv (m + n2) B H σ (a.le.mono (by omega)) a.sg _ fun v B1 H1 x g1 le1 hi p1 => ?_
  have a1 := a.step g1 le1
  obtain ⟨b, h1, h2, _⟩ := a1.sg.mt i _ p e
  refine ⟨_, h1, hk m B1 H1 σ le1 a1.sg _ fun w B2 H2 y g2 le2 hi2 p2 => ?_⟩
  obtain ⟨q, hq, r⟩ := k x y p1 p2
  obtain ⟨hb, vs, h3, h4⟩ := h2.go g2
  have ew : w = kV q := keyD_v (B := B2) (H := H2) hq (.inl hi2)
  subst ew
  refine ⟨b, _, rfl, DPut.k h3 (size_lt (by rw [h4.length]; exact hl)), ?_⟩
  exact ok.nx m B2 _ σ _ ((a1.step g2 le2).change e h1 (d := .dK (putD kvs q x)) ⟨hb, _, upd_same, h4.put q (hi.mono g2.b)⟩) r
/-- d[k] = v, d owned, its keys tuples -/
theorem s_putN {i : Nat} {kvs : List (NestedKey × D)} {p : Addr → Prop} (e : Γ[i]? = some (.ow (.dN kvs) p)) (hl : kvs.length < 16000000) (hv : DF K ta Γ n1 P1) (hk : DF K tb Γ n2 P2) (k : ∀ x y, P1 x → P2 y → ∃ q, tkey y = some q ∧ R.nx (Γ.set i (.ow (.dN (putD kvs q x)) p)) m) : DS K (sDPutN K Wld.w (tVar i) tb ta) Γ (m + n1 + n2) R := by
  intro B0 H0 B H σ E a ok
  refine hv (m + n2) B H σ (a.le.mono (by omega)) a.sg _ fun v B1 H1 x g1 le1 hi p1 => ?_
  have a1 := a.step g1 le1
  obtain ⟨b, h1, h2, _⟩ := a1.sg.mt i _ p e
  refine ⟨_, h1, hk m B1 H1 σ le1 a1.sg _ fun w B2 H2 y g2 le2 hi2 p2 => ?_⟩
  obtain ⟨q, hq, r⟩ := k x y p1 p2
  obtain ⟨hb, xs, h3, h4⟩ := h2.go g2
  obtain ⟨c, rfl, kb, kd⟩ := tkey_v (B := B2) (H := H2) le2 hq (.inl hi2)
  refine ⟨b, c, xs, q, rfl, rfl, h3, h4.keys le2, kb.at_ le2, kd, size_lt (by rw [h4.length]; exact hl), ?_⟩
  exact ok.nx m B2 _ σ _ ((a1.step g2 le2).change e h1 (d := .dN (putD kvs q x)) ⟨hb, _, upd_same, h4.put kb kd (hi.mono g2.b)⟩) r
theorem es_putN {i : Nat} {kvs : List (NestedKey × D)} {p : Addr → Prop} {q : NestedKey} (e : Γ[i]? = some (.ow (.dN kvs) p)) (hl : kvs.length < 16000000) (hv : DF K ta Γ 0 (· = x)) (hk : DF K tb Γ 0 (· = y)) (hq : tkey y = some q) (k : R.nx (Γ.set i (.ow (.dN (putD kvs q x)) p)) m) : DS K (sDPutN K Wld.w (tVar i) tb ta) Γ m R :=
  s_putN (n1 := 0) (n2 := 0) e hl hv hk fun _ _ e1 e2 => ⟨q, by rw [e2]; exact hq, by rw [e1]; exact k⟩
theorem w_newN : DW K (tDNewN Wld.w) Γ n (· = .dN []) := by
  intro m B H σ le sg Q k p hp
  obtain ⟨g, le2, hb⟩ := go_new (o := nHO Wld.w p []) (le.mono (by omega) : Le m B H) hp
  exact k p B _ (.dN []) g le2 hp ⟨hb, [], upd_same, .nil⟩ rfl
/-- d.get(y, z) -/
theorem f_getN {kvs : List (NestedKey × D)} (hd : DR K te Γ n1 (· = .dN kvs)) (hk : DF K tb Γ n2 P1) (hz : DF K tc Γ n3 P2) (h : ∀ y z, P1 y → P2 z → ∃ q, tkey y = some q ∧ P ((valD kvs q).getD z)) : DF K (tDGetN K Wld.w te tb tc) Γ (n1 + n2 + n3) P := by
  intro m B H σ le sg Q k
  refine hd (m + n2 + n3) B H σ (le.mono (by omega)) sg _ fun v B1 H1 x g1 le1 r1 p1 => ?_
  subst p1
  obtain ⟨a, xs, rfl, nd, r⟩ := rv_dN r1 le1
  refine ⟨a, xs, rfl, nd, hk (m + n3) B1 H1 σ (le1.mono (by omega)) (sg.go g1) _ fun w B2 H2 y g2 le2 hi2 p2 => hz m B2 H2 σ le2 (sg.go (g1.trans g2)) _ fun u B3 H3 z g3 le3 hi3 p3 => ?_⟩
  obtain ⟨q, hq, hp⟩ := h y z p2 p3
  obtain ⟨b, rfl, kb, kd⟩ := tkey_v le3 hq (.inl (hi2.mono g3.b))
  obtain ⟨a', xs', e, nd', r'⟩ := rv_dN (r1.go (g2.trans g3)) le3
  cases e
  refine ⟨b, xs', q, rfl, nd', kb.at_ le3, kd, ?_⟩
  have w := r'.val q
  have g := (g1.trans g2).trans g3
  cases ev : valN xs' q with
  | none =>
    rw [ev] at w
    cases ed : valD kvs q with
    | none => rw [ed] at hp; exact k _ _ _ _ g le3 hi3 hp
    | some d => rw [ed] at w; exact w.elim
  | some v =>
    rw [ev] at w
    cases ed : valD kvs q with
    | none => rw [ed] at w; exact w.elim
    | some d => rw [ed] at w hp; exact k _ _ _ _ g le3 w hp
/-- self.f = .., self owned -/
theorem s_fld {i : Nat} {A : Addr} {f : Str} {fs : List (Str × D)} {p : Addr → Prop} (hc : Cls K A) (hn : NoAttr K A f) (e : Γ[i]? = some (.ow (.ins A fs) p)) (hl : fs.length < 1000) (h : DF K te Γ n P) (k : ∀ d, P d → R.nx (Γ.set i (.ow (.ins A (putFD f d fs)) p)) m) : DS K (sFld K (tVar i) te f) Γ (m + n) R := by
  intro B0 H0 B H σ E a ok
  refine h m B H σ a.le a.sg _ fun v B' H' d g le hi pd => ?_
  have a1 := a.step g le
  obtain ⟨b, h1, ⟨hb, dx, vs, h3, h4⟩, _⟩ := a1.sg.mt i _ p e
  refine ⟨_, h1, b, A, dx, vs, rfl, h3, hc, hn, by rw [h4.length]; exact hl, ?_⟩
  exact ok.nx m B' _ σ _ (a1.change e h1 (d := .ins A (putFD f d fs)) ⟨hb, dx, _, upd_same, h4.put f hi⟩) (k d pd)
theorem es_fld {i : Nat} {A : Addr} {f : Str} {fs : List (Str × D)} {p : Addr → Prop} (hc : Cls K A) (hn : NoAttr K A f) (e : Γ[i]? = some (.ow (.ins A fs) p)) (hl : fs.length < 1000) (h : DF K te Γ 0 (· = d)) (k : R.nx (Γ.set i (.ow (.ins A (putFD f d fs)) p)) m) : DS K (sFld K (tVar i) te f) Γ m R :=
  s_fld (n := 0) hc hn e hl h fun _ e => e ▸ k
/-! ### loops -/
theorem s_for {wi : TI} {g : TG} {PL : List D → Prop} (Inv : List D → Nat → Gm → Nat → Prop) (hi : DI K wi Γ n PL) (h0 : ∀ ds, PL ds → Inv ds 0 Γ m)
    (hs : ∀ (ds : List D) (i : Nat) (d : D) (Γ' : Gm) (m' : Nat), PL ds → ds[i]? = some d → Inv ds i Γ' m' → ∃ is Γ2, DG K g is d Γ' Γ2 ∧ DS K t Γ2 m' { R with nx := Inv ds (i + 1), ct := Inv ds (i + 1), bk := R.nx })
    (hd : ∀ (ds : List D) (Γ' : Gm) (m' : Nat), PL ds → Inv ds ds.length Γ' m' → R.nx Γ' m') : DS K (tFor wi g t) Γ (m + n) R := by
  intro B0 H0 B H σ E a ok
  refine hi m B H σ a.le a.sg _ fun J B1 H1 ds g1 le1 wk pl => ?_
  have a1 := a.step g1 le1
  obtain ⟨a2, gz⟩ := a1.rebase
  have gzz : ∀ {B2 H2}, Go B1 (sans H1 σ Γ) B2 H2 → Gz B1 H1 B2 H2 := fun g => ⟨fun b f q => g.b b f q, fun b o u q => g.z b o u (gz.z b o u q)⟩
  refine ⟨fun i mm σx Hx => mm = ds.length - i ∧ i ≤ ds.length ∧ ∃ Bx Γx mx, At K B1 (sans H1 σ Γ) mx Bx Hx σx Γx ∧ Inv ds i Γx mx, ⟨ds.length, rfl, Nat.zero_le _, B1, Γ, m, a2, h0 ds pl⟩, ?_⟩
  rintro i mm σx Hx ⟨rfl, hil, Bx, Γx, mx, ax, inv⟩
  by_cases hlt : i < ds.length
  · refine .inr ⟨wk.go mx Bx Hx i (gzz ax.go) ax.le hlt, fun σn Hn => ∃ Bn Γn mn, At K B1 (sans H1 σ Γ) mn Bn Hn σn Γn ∧ Inv ds (i + 1) Γn mn, fun σ' H' q => ⟨ds.length - (i + 1), by omega, rfl, by omega, q⟩, fun x H' hy => ?_⟩
    obtain ⟨B2, d, hd2, g2, le2, hi3⟩ := wk.yld mx Bx Hx i x H' (gzz ax.go) ax.le hlt hy
    obtain ⟨is, Γ2, dg, ds2⟩ := hs ds i d Γx mx pl hd2 inv
    refine dg B1 (sans H1 σ Γ) mx B2 H' σx x (ax.step g2 le2) hi3 _ fun σ' a' _ _ => ?_
    have oki := ok.inner a1
    exact ds2 B1 (sans H1 σ Γ) B2 H' σ' _ a' ⟨fun m B H σ Γ a r => ⟨B, Γ, m, a, r⟩, fun m B H σ Γ a r => oki.nx m B H σ Γ a r, fun m B H σ Γ a r => ⟨B, Γ, m, a, r⟩, oki.rt, oki.rw⟩
  · have e : i = ds.length := by omega
    subst e
    exact .inl ⟨wk.stop mx Bx Hx (gzz ax.go) ax.le, ok.nx mx Bx Hx σx Γx (a1.outer ax) (hd ds Γx mx pl inv)⟩
theorem s_while (Inv : Nat → Gm → Nat → Prop) (h0 : ∃ μ, Inv μ Γ m)
    (hs : ∀ (μ : Nat) (Γ' : Gm) (m' : Nat), Inv μ Γ' m' → ∃ (m2 : Nat) (Pb : Bool → Prop), ∃ n', m2 + n' ≤ m' ∧ DT K tt Γ' n' Pb ∧ (Pb true → DS K t Γ' m2 { R with nx := fun Γ2 m3 => ∃ μ', μ' < μ ∧ Inv μ' Γ2 m3, ct := fun Γ2 m3 => ∃ μ', μ' < μ ∧ Inv μ' Γ2 m3, bk := R.nx }) ∧ (Pb false → R.nx Γ' m2)) : DS K (tWhile tt t) Γ m R := by
  intro B0 H0 B H σ E a ok
  obtain ⟨μ0, h0⟩ := h0
  refine ⟨fun μ σx Hx => ∃ Bx Γx mx, At K B0 H0 mx Bx Hx σx Γx ∧ Inv μ Γx mx, ⟨μ0, B, Γ, m, a, h0⟩, ?_⟩
  rintro μ σx Hx ⟨Bx, Γx, mx, ax, inv⟩
  obtain ⟨m2, Pb, n', hm, dt, h1, h2⟩ := hs μ Γx mx inv
  refine dt m2 Bx Hx σx (ax.le.mono hm) ax.sg _ fun b B1 H1 g1 le1 p => ?_
  cases b with
  | false => exact iteF (ok.nx m2 B1 H1 σx Γx (ax.step g1 le1) (h2 p))
  | true =>
    refine iteT ⟨fun σn Hn => ∃ μ', μ' < μ ∧ ∃ Bn Γn mn, At K B0 H0 mn Bn Hn σn Γn ∧ Inv μ' Γn mn, fun σ' H' ⟨μ', l, q⟩ => ⟨μ', l, q⟩, ?_⟩
    exact h1 p B0 H0 B1 H1 σx _ (ax.step g1 le1) ⟨fun m B H σ Γ a ⟨μ', l, r⟩ => ⟨μ', l, B, Γ, m, a, r⟩, ok.nx, fun m B H σ Γ a ⟨μ', l, r⟩ => ⟨μ', l, B, Γ, m, a, r⟩, ok.rt, ok.rw⟩
/-! ### the entry of a def -/
def startG (N : List Str) (ds : List D) : Gm := ds.map .val ++ List.replicate (N.length - ds.length) .no
theorem start_sg {B : Kn} {H : Hp} {N : List Str} {vs : List V} {ds : List D} (r : IsL K B vs ds) : Sg K B H (start N vs) (startG N ds) := by
  have no : ∀ (i : Nat) (d : D) (p : Addr → Prop), (startG N ds)[i]? ≠ some (.ow d p) := fun i d p e => by
    unfold startG at e
    rw [List.getElem?_append] at e
    split at e
    · rw [List.getElem?_map] at e
      cases q : ds[i]? with
      | none => rw [q] at e; cases e
      | some x => rw [q] at e; cases e
    · have := List.mem_of_getElem? e
      rw [List.mem_replicate] at this
      cases this.2
  refine ⟨?_, fun i d e => ?_, fun i d p e => (no i d p e).elim, fun i j a d e p q h => (no i d p h).elim⟩
  · unfold L2.start startG
    rw [List.length_append, List.length_append, List.length_map, List.length_map, List.length_replicate, List.length_replicate, r.length]
  · unfold startG at e
    unfold L2.start
    rw [List.getElem?_append] at e
    split at e
    · rename_i hlt
      rw [List.length_map] at hlt
      rw [List.getElem?_map] at e
      cases q : ds[i]? with
      | none => rw [q] at e; cases e
      | some x =>
        rw [q] at e; cases e
        obtain ⟨v, hv, hi⟩ := r.get q
        refine ⟨v, ?_, hi⟩
        rw [List.getElem?_append_left (by rw [List.length_map, r.length]; exact hlt), List.getElem?_map, hv]; rfl
    · have := List.mem_of_getElem? e
      rw [List.mem_replicate] at this
      cases this.2
/-- the posts of a def that gives data -/
def PoF (m : Nat) (P : D → Prop) : Posts := { nx := fun _ m' => m ≤ m' ∧ P .non, rt := fun d m' => m ≤ m' ∧ P d, rw := fun d m' => m ≤ m' ∧ P d }
def PoW (m : Nat) (P : D → Prop) : Posts := { nx := fun _ _ => False, rt := fun _ _ => False, rw := fun d m' => m ≤ m' ∧ P d }
theorem body_F {C : Ct} {N : List Str} (h : ∀ ds P m, C ds P → DS K t (startG N ds) (m + n) (PoF m P)) : ∀ {vs H Q E}, spF K n C vs H Q E → t { nx := fun _ H' => Q .non H', rt := Q } (start N vs) H := by
  rintro vs H Q E ⟨m, B, ds, P, le, r, c, k⟩
  refine h ds P m c B H B H _ _ ⟨Go.refl _ _, le, start_sg r, fun i d p a e => ?_⟩ ⟨fun m' B' H' σ Γ a ⟨hm, q⟩ => k _ B' H' .non a.go (a.le.mono hm) .non q, fun _ _ _ _ _ _ f => f.elim, fun _ _ _ _ _ _ f => f.elim, fun m' B' H' v d g le' hi ⟨hm, q⟩ => k v B' H' d g (le'.mono hm) hi q, fun m' B' H' a d g le' hn ho ⟨hm, q⟩ => ?_⟩
  · intro e2
    have : (startG N ds)[i]? ≠ some (.ow d p) := fun e => by
      unfold startG at e
      rw [List.getElem?_append] at e
      split at e
      · rw [List.getElem?_map] at e
        cases q : ds[i]? with
        | none => rw [q] at e; cases e
        | some x => rw [q] at e; cases e
      · have := List.mem_of_getElem? e
        rw [List.mem_replicate] at this
        cases this.2
    exact (this e).elim
  · obtain ⟨o, ea, le2, gw, hi⟩ := ho.froze (le'.mono hm)
    exact k _ _ _ d (frz_go ho.none hn g) le2 hi q
theorem body_W {C : Ct} {N : List Str} (h : ∀ ds P m, C ds P → DS K t (startG N ds) (m + n) (PoW m P)) : ∀ {vs H Q E}, spW K n C vs H Q E → t { nx := fun _ H' => Q .non H', rt := Q } (start N vs) H := by
  rintro vs H Q E ⟨m, B, ds, P, le, r, c, k⟩
  refine h ds P m c B H B H _ _ ⟨Go.refl _ _, le, start_sg r, fun i d p a e => ?_⟩ ⟨fun _ _ _ _ _ _ f => f.elim, fun _ _ _ _ _ _ f => f.elim, fun _ _ _ _ _ _ f => f.elim, fun _ _ _ _ _ _ _ _ f => f.elim, fun m' B' H' a d g le' hn ho ⟨hm, q⟩ => k a B' H' d g (le'.mono hm) hn ho q⟩
  intro e2
  have : (startG N ds)[i]? ≠ some (.ow d p) := fun e => by
    unfold startG at e
    rw [List.getElem?_append] at e
    split at e
    · rw [List.getElem?_map] at e
      cases q : ds[i]? with
      | none => rw [q] at e; cases e
      | some x => rw [q] at e; cases e
    · have := List.mem_of_getElem? e
      rw [List.mem_replicate] at this
      cases this.2
  exact (this e).elim
end
end DL
set_option Elab.async false
set_option linter.all false
set_option maxRecDepth 100000
set_option maxHeartbeats 2000000
/-! DL, part k: defs that may be called, by their contracts; short rules for the walk. -/
namespace DL
open PySem L2
section
variable {P : Program} {w : World} {K : PySem.W.Frag} {mg : Str → Option Value} {base : Heap} {k : Nat} {f : Addr} {sp : Sp} {ps : List Str}
/-- a def at f that may be called and keeps its promise (without exceptions) -/
structure FC (P : Program) (w : World) (K : PySem.W.Frag) (mg : Str → Option Value) (base : Heap) (k : Nat) (f : Addr) (fd : FuncData) (ps : List Str) (sp : Sp) : Prop where
  ok : FnOk P w K mg base CX0 k f fd ps sp
  bi : Binds K fd ps []
  kp : PySem.W.keepIn K (.ref f) = true
variable {fd : FuncData}
theorem FC.mono {j : Nat} (c : FC P w K mg base k f fd ps sp) (h : k ≤ j) : FC P w K mg base j f fd ps sp := ⟨c.ok.mono h, c.bi, c.kp⟩
theorem FC.imp {sp' : Sp} (c : FC P w K mg base k f fd ps sp) (h : ∀ vs H Q E, sp' vs H Q E → sp vs H Q E) : FC P w K mg base k f fd ps sp' := ⟨c.ok.imp h, c.bi, c.kp⟩
/-- what stands at f: the def st of the text -/
structure Df (K : PySem.W.Frag) (x qual : Str) (st : Stmt) (f : Addr) (fd : FuncData) (ps : List Str) : Prop where
  fn : Fun K x qual st f fd
  bi : Binds K fd ps []
abbrev Xb (P : Program) (w : World) (K : PySem.W.Frag) (mg : Str → Option Value) (base : Heap) (N : List Str) (qual : Str) (st : Stmt) (f : Addr) (cdv : Value) (A : Around) (outer : List Env) (s : Shared) (H : Hp) (E : XK) : Cx := (cxOf CX0 P w K mg base N qual (defScope st) f cdv A outer s H E).nox
variable {x qual : Str} {st : Stmt} {N : List Str} {t : TS} {n : Nat} {C : Ct}
theorem FC.ofT (F : Df K x qual st f fd ps) (S : FnScope N ps (defScope st)) (len : ∀ vs H Q E, sp vs H Q E → vs.length = ps.length) (hk : ∀ {A : Around} {cdv : Value} {s : Shared}, Room k (A.deeper (PyProof.Rows.envOfC qual (defScope st) s.heap.objs.size f cdv)) → ∀ outer H E, PSs (Xb P w K mg base N qual st f cdv A outer s H E) (defBody st) t)
    (h : ∀ {vs H Q E}, sp vs H Q E → t { nx := fun _ H' => Q .non H', rt := Q } (L2.start N vs) H) : FC P w K mg base (k + 1) f fd ps sp :=
  ⟨F.fn.ok S len fun cdv A outer s H vs Q E hr q => ⟨t, hk hr outer H E, h q⟩, F.bi, F.fn.kp⟩
theorem spF_len [Wld] {l : Nat} (hl : ∀ ds P, C ds P → ds.length = l) {vs : List V} {H : Hp} {Q : VK} {E : XK} (h : spF K n C vs H Q E) : vs.length = l := by
  obtain ⟨m, B, ds, P, _, r, c, _⟩ := h
  rw [r.length]; exact hl ds P c
theorem spW_len [Wld] {l : Nat} (hl : ∀ ds P, C ds P → ds.length = l) {vs : List V} {H : Hp} {Q : VK} {E : XK} (h : spW K n C vs H Q E) : vs.length = l := by
  obtain ⟨m, B, ds, P, _, r, c, _⟩ := h
  rw [r.length]; exact hl ds P c
end
section
variable {X : Cx} {k j : Nat} {f C : Addr} {fd : FuncData} {ps : List Str} {sp : Sp} {x m : Str} {p pos apos : Pos} {e o : Expr} {es : List Expr} {ta te : TE} {t : TA}
/-- f(e, ..) -/
theorem pe_fn (c : FC X.prog X.w X.K X.mg X.base k f fd ps sp) (hr : Room j X.A) (hk : k ≤ j) (hm : X.mg x = some (.ref f)) (ha : PA X (e :: es) t) (hg : Gl X x := by rfl) (hdb : (x == ("__debug__" : Str)) = false := by decide)
    (he : starEach (e :: es) X.env = (false, eval e X.env) :: starEach es X.env := by rfl) (hpl : (backTo pos (starEach es X.env)).any (·.1) = false := by rfl) : PE X (.Call (.Name x p) (e :: es) [] pos) (tCall sp [] E0 t) := by
  obtain ⟨F, b, kp⟩ := c
  exact pe_call F (hr.mono hk) hg hm kp b .nil pass0 ha hdb he hpl
/-- o.m(e, ..) -/
theorem pe_me {pl : Sem Bool} (c : FC X.prog X.w X.K X.mg X.base k f fd ps sp) (hr : Room j X.A) (hk : k ≤ j) (cl : Cls X.K C) (hm : Meth X.K C m f) (ho : PE X o ta) (ha : PA X (e :: es) t)
    (hst : starEach (e :: es) X.env = (false, eval e X.env) :: starEach es X.env := by rfl) (hpl : (backTo pos (starEach es X.env)).any (·.1) = false := by rfl)
    (ht : eval (.Call (.Attribute o m apos) (e :: es) [] pos) X.env = (do
      let ov ← eval o X.env
      standAt apos.atName
      let (f, first) ← holding [ov] (getMethod ov m pl)
      callWith pos f first (backTo pos (starEach (e :: es) X.env)) (backToKw pos (keywordEach [] X.env))) := by rfl) : PE X (.Call (.Attribute o m apos) (e :: es) [] pos) (tMeth C m sp [] E0 ta t) := by
  obtain ⟨F, b, kp⟩ := c
  exact pe_meth ho cl hm F (hr.mono hk) b .nil pass0 ha hst hpl ht
theorem pe_me0 {pl : Sem Bool} (c : FC X.prog X.w X.K X.mg X.base k f fd ps sp) (hr : Room j X.A) (hk : k ≤ j) (cl : Cls X.K C) (hm : Meth X.K C m f) (ho : PE X o ta)
    (ht : eval (.Call (.Attribute o m apos) [] [] pos) X.env = (do
      let ov ← eval o X.env
      standAt apos.atName
      let (f, first) ← holding [ov] (getMethod ov m pl)
      callWith pos f first (backTo pos (starEach [] X.env)) (backToKw pos (keywordEach [] X.env))) := by rfl) : PE X (.Call (.Attribute o m apos) [] [] pos) (tMeth C m sp [] E0 ta tNil) := by
  obtain ⟨F, b, kp⟩ := c
  exact pe_meth0 ho cl hm F (hr.mono hk) b .nil pass0 ht
/-- o.f, a property -/
theorem pe_pr (c : FC X.prog X.w X.K X.mg X.base k f fd ps sp) (hr : Room j X.A) (hk : k + 1 ≤ j) (cl : Cls X.K C) (hp : ∃ p, PropOf X.K C m p f) (ho : PE X o ta)
    (hab : attributeBase o m X.env (eval o X.env) = eval o X.env := by rfl) : PE X (.Attribute o m pos) (tProp C sp [] E0 ta) := by
  obtain ⟨F, b, kp⟩ := c
  obtain ⟨p, hp⟩ := hp
  exact pe_prop ho cl hp F (hr.mono hk) b .nil pass0 hab
/-- o[i] by __getitem__ -/
theorem ixC (c : FC X.prog X.w X.K X.mg X.base k f fd ps sp) (hr : Room j X.A) (hk : k + 1 ≤ j) (cl : Cls X.K C) (g : GetOf X.K C f) : IxO X (rIxO C sp) := by
  obtain ⟨F, b, kp⟩ := c
  exact ix_own cl g F (hr.mono hk) b pass0
theorem pe_ixC (hu : X.A.units + 64 < cLine) (c : FC X.prog X.w X.K X.mg X.base k f fd ps sp) (hr : Room j X.A) (hk : k + 1 ≤ j) (cl : Cls X.K C) (g : GetOf X.K C f) {a b : Expr} {tb : TE} (ha : PE X a ta) (hb : PE X b tb) (hs : PlainIx b := by intro _ _; rfl) (hs2 : ∀ o i, subscripted b true o i = runValue (Code.builtin "lifetime.subscript" { pos := [o, i] }) := by intro _ _; rfl) : PE X (.Subscript a b pos) (tOp (fun x y H Q => @rIxX ⟨X.w⟩ X.K x y H Q ∨ rIxO C sp x y H Q) ta tb) :=
  pe_ixO ((IxO.of (ix_X hu)).or (ixC c hr hk cl g)) ha hb hs hs2
theorem pe_ixP (hu : X.A.units + 64 < cLine) {a b : Expr} {tb : TE} (ha : PE X a ta) (hb : PE X b tb) (hs : PlainIx b := by intro _ _; rfl) : PE X (.Subscript a b pos) (tOp (@rIxX ⟨X.w⟩ X.K) ta tb) := pe_ix (ix_X hu) ha hb hs
/-- C(e, ..) -/
theorem pe_mk (c : FC X.prog X.w X.K X.mg X.base k f fd ps sp) (M : Mk X.K C f) (hr : Room j X.A) (hk : k + 1 ≤ j) (hm : X.mg x = some (.ref C)) (ha : PA X (e :: es) t) (hg : Gl X x := by rfl) (hdb : (x == ("__debug__" : Str)) = false := by decide)
    (he : starEach (e :: es) X.env = (false, eval e X.env) :: starEach es X.env := by rfl) (hpl : (backTo pos (starEach es X.env)).any (·.1) = false := by rfl) : PE X (.Call (.Name x p) (e :: es) [] pos) (tMake C sp [] E0 t) :=
  pe_make M c.ok (hr.mono hk) hg hm c.bi .nil pass0 ha hdb he hpl
/-! ### constants of the module, classes, types -/
theorem pe_gint {i : Int} (h : ∃ t, X.mg x = some (.int i t)) (hg : Gl X x := by rfl) (hd : (x == ("__debug__" : Str)) = false := by decide) : PE X (.Name x pos) (tC (.int i)) := by
  obtain ⟨t, h⟩ := h; exact pe_glob hg h ⟨t, rfl⟩ hd
theorem pe_gstr {i : Str} (h : ∃ t, X.mg x = some (.str i t)) (hg : Gl X x := by rfl) (hd : (x == ("__debug__" : Str)) = false := by decide) : PE X (.Name x pos) (tC (.str i)) := by
  obtain ⟨t, h⟩ := h; exact pe_glob hg h ⟨t, rfl⟩ hd
theorem pe_gcls (h : X.mg x = some (.ref C)) (hg : Gl X x := by rfl) (hd : (x == ("__debug__" : Str)) = false := by decide) : PE X (.Name x pos) (tC (.ref C)) := pe_glob hg h rfl hd
theorem pe_bty {T : String} (h : X.mg x = none) (hv : bootBuiltins x = some (.type T)) (hg : Gl X x := by rfl) (hn : x ≠ "__name__" := by decide) (hd : (x == ("__debug__" : Str)) = false := by decide) : PE X (.Name x pos) (tC (.ty T)) := pe_bltn hg h hv rfl hn hd
/-! ### built-ins, methods of built-ins -/
variable {id T : String} {r : List V → Hp → VK → Prop}
theorem pe_cb (hc : CallR X (.builtin id) r) (hm : X.mg x = none) (hv : bootBuiltins x = some (.builtin id)) (ha : PA X (e :: es) t) (hg : Gl X x := by rfl) (hn : x ≠ "__name__" := by decide) (hdb : (x == ("__debug__" : Str)) = false := by decide)
    (he : starEach (e :: es) X.env = (false, eval e X.env) :: starEach es X.env := by rfl) (hpl : (backTo pos (starEach es X.env)).any (·.1) = false := by rfl) : PE X (.Call (.Name x p) (e :: es) [] pos) (tCB r t) := pe_callB hc hg hm hv ha hn hdb he hpl
theorem pe_ct (hc : CallR X (.type T) r) (hm : X.mg x = none) (hv : bootBuiltins x = some (.type T)) (ha : PA X (e :: es) t) (hg : Gl X x := by rfl) (hn : x ≠ "__name__" := by decide) (hdb : (x == ("__debug__" : Str)) = false := by decide)
    (he : starEach (e :: es) X.env = (false, eval e X.env) :: starEach es X.env := by rfl) (hpl : (backTo pos (starEach es X.env)).any (·.1) = false := by rfl) : PE X (.Call (.Name x p) (e :: es) [] pos) (tCB r t) := pe_callTy hc hg hm hv ha hn hdb he hpl
end
end DL
set_option Elab.async false
set_option linter.all false
set_option maxRecDepth 100000
set_option maxHeartbeats 2000000
/-! DL, part l: names of readings for the generated texts; classes of the program. -/
namespace DL
open PySem L2
abbrev rLe : R2 := rI0 fun i j => .bl (decide (i ≤ j))
abbrev rGe : R2 := rI0 fun i j => .bl (decide (j ≤ i))
abbrev rSubI : R2 := rI0 fun i j => .int (i - j)
abbrev rModI : R2 := rI (fun _ j => 0 < j) fun i j => .int (i % j)
abbrev rDivI : R2 := rI CDivW fun i j => .int (i / j)
abbrev rPowI : R2 := rI CPowW fun i j => .int (i ^ j.toNat)
abbrev tTru (K : PySem.W.Frag) (te : TE) : TT := fun σ H Q => te σ H fun x H' => ∃ k, TruV K x H' k ∧ Q k H'
theorem hu64_of {A : Around} {k : Nat} (hr : Room k A) : A.units + 64 < cLine := by have := hr.un; omega
/-- where the classes stand -/
structure Ad where
  Network : Addr
  Table : Addr
  Plan : Addr
  Update : Addr
  DoubledTrace : Addr
  Live : Addr
  Packet : Addr
  Moment : Addr
  noWaits : Addr
/-- what holds of the four classes that all laws have -/
structure Tc (K : PySem.W.Frag) (a : Ad) : Prop where
  c_Network : Cls K a.Network
  c_Table : Cls K a.Table
  c_Plan : Cls K a.Plan
  c_Update : Cls K a.Update
  i_Network : ClsI K a.Network
  i_Table : ClsI K a.Table
  k_Network : PySem.W.kitOne K (.ref a.Network) (.ref a.Network) = some true
  k_Table : PySem.W.kitOne K (.ref a.Table) (.ref a.Table) = some true
  nw : ∃ (o : Obj) (its : Array Value) (n : Nat), K.lookup a.noWaits = some o ∧ o.cls = .type "tuple" ∧ o.data = .seq its n ∧ its.size ≤ sizeLine ∧ Vals [] its.toList
  n_own_nodes : NoAttr K a.Network "own_nodes"
  n_own_exits : NoAttr K a.Network "own_exits"
  n_own_network : NoAttr K a.Table "own_network"
  n_hops : NoAttr K a.Table "hops"
  n_rows : NoAttr K a.Plan "rows"
  n_pauses : NoAttr K a.Plan "pauses"
  n_numbers : NoAttr K a.Plan "numbers"
  n_uown_network : NoAttr K a.Update "own_network"
  n_pairs : NoAttr K a.Update "pairs"
end DL
set_option Elab.async false
set_option linter.all false
set_option maxRecDepth 100000
set_option maxHeartbeats 2000000
/-! DL, part m: {k: v for a in x for b in y}. -/
namespace DL
open PySem PySem.Spec PyProof.Rows L2
abbrev two (kx vx ta ia tb ib : Expr) (sc : Scope) (po : Pos) : Expr := .DictComp kx vx [⟨ta, ia, [], 0⟩, ⟨tb, ib, [], 0⟩] sc po
section
variable {pr : Program} {wo : World} {Ar : Around} {Re : Result → Shared → Prop} {kx vx ta ia tb ib : Expr} {sc : Scope} {po : Pos} {z : Shared} {it : Value} {da : Addr} {en : Env}
abbrev errs (pr : Program) (wo : World) (Ar : Around) (en : Env) (Re : Result → Shared → Prop) : Value → Shared → Prop := notedBy (model pr wo) Ar en fun e q => Re (.error e) q
theorem turn_a (ac : Value) : compTurn (two kx vx ta ia tb ib sc po) 0 it ac en = (do
    standAt ia.pos
    let got ← pyNext it
    match got with
    | none => pure (.done .next)
    | some v => do
      letOwnedTupleGo ta it v
      assign ta en v
      let mut yes := true
      for c in ([] : List Expr) do
        if yes then yes ← isTrue c en (eval c en)
      if yes then
        let x ← eval ib en
        standAt ib.pos
        let x ← foldedSetIterable ib en x
        let _ ← runOwn (.compStart (two kx vx ta ia tb ib sc po) 1 (← holding [x] (pyIter x)) ac en) en
      again (.compLoop (two kx vx ta ia tb ib sc po) 0 it ac en)) := by rfl
theorem turn_b : compTurn (two kx vx ta ia tb ib sc po) 1 it (.ref da) en = (do
    standAt ib.pos
    let got ← pyNext it
    match got with
    | none => pure (.done .next)
    | some v => do
      letOwnedTupleGo tb it v
      assign tb en v
      let mut yes := true
      for c in ([] : List Expr) do
        if yes then yes ← isTrue c en (eval c en)
      if yes then
        (do
          let kk ← eval kx en
          let vv ← holding [kk] (eval vx en)
          standAt { kx.pos with endLine := vx.pos.endLine, endCol := vx.pos.endCol }
          holding [kk, vv] (dictSet da kk vv))
      again (.compLoop (two kx vx ta ia tb ib sc po) 1 it (.ref da) en)) := by rfl
/-- the loop of the clause ahead -/
theorem loop_a {ac : Value} (fo : ∀ x, foldedSetIterable ib en x = pure x) (Iv : Nat → Shared → Prop)
    (go : ∀ n z, Iv n z → wpAny (model pr wo) Ar (pyNext it) (fun r z1 => match r with
      | none => Re (.ok .next) z1
      | some v => wpAny (model pr wo) Ar (letOwnedTupleGo ta it v) (fun _ z2 => wpAny (model pr wo) Ar (assign ta en v) (fun _ z3 => wpAny (model pr wo) Ar (eval ib en) (fun x z4 => wpAny (model pr wo) Ar (pyIter x) (fun j z5 =>
          codeAny (model pr wo) Ar (.compStart (two kx vx ta ia tb ib sc po) 1 j ac en) (fun r z6 => match r with
            | .ok _ => ∃ m, m < n ∧ Iv m z6
            | .error _ => False) z5) (errs pr wo Ar en Re) z4) (errs pr wo Ar en Re) z3) (errs pr wo Ar en Re) z2) (errs pr wo Ar en Re) z1) (errs pr wo Ar en Re) z)
    (n : Nat) (h : Iv n z) : codeAny (model pr wo) Ar (.compLoop (two kx vx ta ia tb ib sc po) 0 it ac en) Re z := by
  refine codeAny_loop rfl Iv (fun n z hz => ?_) n h
  show wpAny _ Ar ((compTurn (two kx vx ta ia tb ib sc po) 0 it ac en).onRaise fun x => do noteFrame x en; theTreesLotGoes x) _ _ z
  rw [turn_a]
  refine wpAny_noted (wpAny_bind (wpAny_standAt (wpAny_bind (wpAny_mono (go n z hz) (fun r z1 h1 => ?_) fun _ _ q => q))))
  match r, h1 with
  | none, h1 => exact wpAny_pure h1
  | some v, h1 =>
    refine wpAny_bind (wpAny_mono h1 (fun _ z2 h2 => wpAny_bind (wpAny_mono h2 (fun _ z3 h3 => wpAny_bind (wpAny_tests_nil ?_)) fun _ _ q => q)) fun _ _ q => q)
    refine wpAny_bind (wpAny_mono h3 (fun x z4 h4 => wpAny_bind (wpAny_standAt (wpAny_bind (wpAny_of_eq (fo x) (wpAny_bind (wpAny_holding (wpAny_mono h4 (fun j z5 h5 => ?_) fun _ _ q => q))))))) fun _ _ q => q)
    refine wpAny_bind (wpAny_runOwn ?_)
    rw [Around.mark_none]
    refine codeAny_mono h5 fun r z6 h6 => ?_
    match r, h6 with
    | .ok f, h6 =>
      first
        | exact wpAny_pure ⟨rfl, h6⟩
        | exact wpAny_bind (wpAny_pure (wpAny_pure ⟨rfl, h6⟩))
    | .error e, h6 => exact h6.elim
/-- the loop of the clause behind -/
theorem loop_b (Iv : Nat → Shared → Prop)
    (go : ∀ n z, Iv n z → wpAny (model pr wo) Ar (pyNext it) (fun r z1 => match r with
      | none => Re (.ok .next) z1
      | some v => wpAny (model pr wo) Ar (letOwnedTupleGo tb it v) (fun _ z2 => wpAny (model pr wo) Ar (assign tb en v) (fun _ z3 => wpAny (model pr wo) Ar (eval kx en) (fun kk z4 => wpAny (model pr wo) Ar (eval vx en) (fun vv z5 =>
          wpAny (model pr wo) Ar (dictSet da kk vv) (fun _ z6 => ∃ m, m < n ∧ Iv m z6) (errs pr wo Ar en Re) z5) (errs pr wo Ar en Re) z4) (errs pr wo Ar en Re) z3) (errs pr wo Ar en Re) z2) (errs pr wo Ar en Re) z1) (errs pr wo Ar en Re) z)
    (n : Nat) (h : Iv n z) : codeAny (model pr wo) Ar (.compLoop (two kx vx ta ia tb ib sc po) 1 it (.ref da) en) Re z := by
  refine codeAny_loop rfl Iv (fun n z hz => ?_) n h
  show wpAny _ Ar ((compTurn (two kx vx ta ia tb ib sc po) 1 it (.ref da) en).onRaise fun x => do noteFrame x en; theTreesLotGoes x) _ _ z
  rw [turn_b]
  refine wpAny_noted (wpAny_bind (wpAny_standAt (wpAny_bind (wpAny_mono (go n z hz) (fun r z1 h1 => ?_) fun _ _ q => q))))
  match r, h1 with
  | none, h1 => exact wpAny_pure h1
  | some v, h1 =>
    refine wpAny_bind (wpAny_mono h1 (fun _ z2 h2 => wpAny_bind (wpAny_mono h2 (fun _ z3 h3 => wpAny_bind (wpAny_tests_nil ?_)) fun _ _ q => q)) fun _ _ q => q)
    exact wpAny_bind (wpAny_bind (wpAny_mono h3 (fun kk z4 h4 => wpAny_bind (wpAny_holding (wpAny_mono h4 (fun vv z5 h5 => wpAny_bind (wpAny_standAt (wpAny_holding (wpAny_mono h5 (fun _ z6 h6 => wpAny_pure ⟨rfl, h6⟩) fun _ _ q => q)))) fun _ _ q => q))) fun _ _ q => q))
/-- the second clause begins -/
theorem start_b {ac : Value} (h0 : codeAny (model pr wo) Ar (.compLoop (two kx vx ta ia tb ib sc po) 1 it ac en) Re z)
    (h : wpAny (model pr wo) Ar (pyIter it) (fun j z' => codeAny (model pr wo) Ar (.compLoop (two kx vx ta ia tb ib sc po) 1 j ac en) Re z') (errs pr wo Ar en Re) z) :
    codeAny (model pr wo) Ar (.compStart (two kx vx ta ia tb ib sc po) 1 it ac en) Re z := by
  refine codeAny_of_tree ?_
  show wpAny _ _ ((compStart (two kx vx ta ia tb ib sc po) 1 it ac en).onRaise fun x => do noteFrame x en; standAt theWindowsPlace) _ _ z
  refine wpAny_notedAt ?_
  unfold compStart
  show wpAny _ _ (ask >>= _) _ _ z
  refine wpAny_bind (wpAny_askSetting (wpAny_ite ?_))
  split
  · first
      | exact wpAny_pure ⟨rfl, h0⟩
      | exact wpAny_bind (wpAny_pure (wpAny_pure ⟨rfl, h0⟩))
  · first
      | exact wpAny_bind (wpAny_rule (wpAny_bind (wpAny_standAt (wpAny_bind (wpAny_mono h (fun j z' q => wpAny_pure ⟨rfl, q⟩) fun _ _ x => x)))))
      | (refine wpAny_bind (wpAny_rule ?_); show wpAny _ _ (standAt ib.pos >>= _) _ _ z; exact wpAny_bind (wpAny_standAt (wpAny_bind (wpAny_mono h (fun j z' q => wpAny_pure ⟨rfl, q⟩) fun _ _ x => x))))
end
section
variable {X : Cx}
/-- the reading: vs the names of the block, v2 those of the second target -/
def tDc2 (wi : TI) (g : TG) (wj : TI) (g2 : TG) (tk tv : TE) (vs v2 : List Nat) : TE := fun σ H Q => wi σ H fun J H1 => ∀ da, H1 da = none → ∃ W : Nat → Nat → Hp → Prop, (∃ m, W 0 m (upd H1 da (.dK []))) ∧ ∀ i m H, W i m H →
  (J.stop i H ∧ Q (.ref da) H) ∨ (J.go i H ∧ ∃ Nx : Hp → Prop, (∀ H', Nx H' → ∃ m', m' < m ∧ W (i + 1) m' H') ∧ ∀ x H', J.yld i H x H' → g x (L2.wipe σ vs) H' fun σ2 H2 => L2.wipe σ2 vs = L2.wipe σ vs ∧
    wj σ2 H2 fun J1 H4 => ∃ V : Nat → Nat → Hp → Prop, (∃ m, V 0 m H4) ∧ ∀ j k H, V j k H →
      (J1.stop j H ∧ Nx H) ∨ (J1.go j H ∧ ∃ Ny : Hp → Prop, (∀ H', Ny H' → ∃ k', k' < k ∧ V (j + 1) k' H') ∧ ∀ x H', J1.yld j H x H' → g2 x (L2.wipe σ2 v2) H' fun σ3 H5 => L2.wipe σ3 v2 = L2.wipe σ2 v2 ∧
        tk σ3 H5 fun y H6 => tv σ3 H6 fun u H7 => ∃ kvs k, y = kV k ∧ H7 da = some (.dK kvs) ∧ kvs.length < sizeLine ∧ Ny (upd H7 da (.dK (putK kvs k u)))))
/-- the turn of an iterator that is walked by a loop: what it gives is stored, the iterator's own objects are pinned -/
theorem one_turn {tg : Expr} {J : It} {fp : List Addr} {it : Addr} {tn : Nat → Heap → Prop} {g : TG} (T : Turn X.prog X.w X.K tg J fp it tn) (hc : X.calm = true) (pg : PG X tg g) {pins : List (Addr × Obj)} {σ : L2.St} {H : Hp} {z : Shared} {i : Nat} {E : Value → Shared → Prop}
    (I : Inv X pins σ H z) (ff : ∀ b ∈ fp, FpOk X pins H b) (fn : ∀ H', (∀ b ∈ fp, H' b = none) → ∀ b ∈ fp, FpOk X pins H' b) (st : tn i z.heap) (go : J.go i H) {Qs : L2.St → Hp → Prop} (step : ∀ x H', J.yld i H x H' → g x σ H' Qs)
    {Qg : Option Value → Shared → Prop} (hq : ∀ v z1, wpAny (model X.prog X.w) X.A (letOwnedTupleGo tg (.ref it) v) (fun _ z2 => wpAny (model X.prog X.w) X.A (assign tg X.env v) (fun _ z3 => ∃ σ3 H3 hp, Inv X (pins ++ pinsAt fp hp) σ3 H3 z3 ∧ tn (i + 1) hp ∧ (∀ b ∈ fp, ∃ o, hp.get? b = some o ∧ ∀ v, o.data ≠ .cell v) ∧ Qs σ3 H3) E z2) E z1 → Qg (some v) z1)
    (hE : ∀ {α : Type} {t : Sem α} {Q : α → Shared → Prop} {z : Shared}, wpAny (model X.prog X.w) X.A t Q X.xe z → wpAny (model X.prog X.w) X.A t Q E z) : wpAny (model X.prog X.w) X.A (pyNext (.ref it)) Qg E z := by
  refine L2.thnF (T.item X rfl rfl rfl hc i pins z σ H (fun _ _ => False) I ff st go) fun r z1 ⟨v, hr, h6⟩ => ?_
  subst hr
  refine hq v z1 (L2.thnF h6 fun _ z2 ⟨x, H2, I2, r2, y2, st2, n2⟩ => ?_)
  have I2' := I2.pinned (fn H2 n2) (T.obj _ _ st2)
  exact hE (thn (pg.run _ z2 σ H2 x v _ I2' r2 (step x H2 y2)) fun _ z3 ⟨σ3, H3, I3, q3⟩ => ⟨σ3, H3, z2.heap, I3, st2, T.obj _ _ st2, q3⟩)
theorem pins_keep {fp : List Addr} {hp : Heap} {pins : List (Addr × Obj)} {σ : L2.St} {H : Hp} {z : Shared} (I : Inv X (pins ++ pinsAt fp hp) σ H z) {b : Addr} (hb : b ∈ fp) {o : Obj} (e : hp.get? b = some o) : z.heap.get? b = some o ∧ H b = none :=
  have q := I.pin (b, o) (List.mem_append_right _ (List.mem_append_right _ (mem_pinsAt hb e)))
  ⟨q.1, q.2.1⟩
theorem core2 {pins : List (Addr × Obj)} {z : Shared} {σ : L2.St} {H : Hp} {Q : VK} {kx vx ta ia tb ib : Expr} {sc : Scope} {own : List (Str × Nat)} {v2 : List Nat} {po pos' : Pos} {wi wj : TI} {g g2 : TG} {tk tv : TE} {use : Option (Value → Sem Unit)} {Qf : Value → Shared → Prop}
    (hc : X.calm = true) (hN : X.N.Nodup) (I : Inv X pins σ H z) (hi : PI X ta ia wi) (ok : BlkOk X.N X.env.scope sc own) (hv : ∀ i ∈ v2, i ∈ own.map (·.2))
    (hg : ∀ (s : Shared) (H : Hp) (C : Addr) (cl : List (Str × Addr)) (fp : List Addr), PG (X.blk s H sc (compEnvC sc cl C X.env) fp) ta g) (hj : ∀ (s : Shared) (H : Hp) (C : Addr) (cl : List (Str × Addr)) (fp : List Addr), PI (X.blk s H sc (compEnvC sc cl C X.env) fp) tb ib wj)
    (hg2 : ∀ (s : Shared) (H : Hp) (C : Addr) (cl : List (Str × Addr)) (fp : List Addr), PG (X.blk s H sc (compEnvC sc cl C X.env) fp) tb g2) (hk : ∀ (s : Shared) (H : Hp) (C : Addr) (cl : List (Str × Addr)) (fp : List Addr), PE (X.blk s H sc (compEnvC sc cl C X.env) fp) kx tk)
    (he : ∀ (s : Shared) (H : Hp) (C : Addr) (cl : List (Str × Addr)) (fp : List Addr), PE (X.blk s H sc (compEnvC sc cl C X.env) fp) vx tv) (hs : ∀ x, foldedSetIterable ia X.env x = pure x) (hs2 : ∀ env x, foldedSetIterable ib env x = pure x)
    (h : tDc2 wi g wj g2 tk tv (own.map (·.2)) v2 σ H Q)
    (fin : ∀ da C z' m H', Inv X pins σ H' z' → Q (.ref da) H' → z'.heap.Ns C m → FpOk X pins H' C → compPost (model X.prog X.w) X.A X.xe use Qf (.ref da) C (.ok .next) z') :
    wpAny (model X.prog X.w) X.A (comprehension (two kx vx ta ia tb ib sc po) sc X.env pos' newDict false (eval ia X.env) use) Qf X.xe z := by
  have cl : ∀ y ∈ sc.names, y.2 = .free → ∃ c, X.env.cells.lookup y.1 = some c := fun y hy e => (ok.free y hy e).elim (fun k => I.ok.has _ (.inl k)) fun k => I.ok.has _ (.inr k)
  refine wpAny_comprehension_free (use := use) rfl hs (closure_ok cl) ok.kind (fun y hy e => by rw [ok.uniq y hy, e]) (thn (hi.run pins z σ H _ I h) fun xv z1 hx => thn hx fun iv z2 h2 => ?_)
  obtain ⟨it, fp, tn, J, H2, rfl, I2, T, st2, f2, q⟩ := h2
  refine wpAny_newObj_type (newEnv_comp ?_)
  generalize hd : z2.heap.objs.size = da
  obtain ⟨W, ⟨m0, w0⟩, tu⟩ := q da (I2.hok.fresh (Nat.le_of_eq hd))
  -- the dict that is made
  generalize hz3 : ({ z2 with heap := z2.heap.push { cls := .type "dict", data := .dict #[] } } : Shared) = z3
  have h3 : z3.heap = z2.heap.push { cls := .type "dict", data := .dict #[] } := by rw [← hz3]
  have I3 : Inv X pins σ (upd H2 da (.dK [])) z3 := by
    rw [← hz3]
    exact I2.laid (t' := z2.toks) (fun b o e => Heap.get?_push_of_some _ e) (Nat.le_of_eq hd) (by rw [← hd]; exact dk_empty z2.heap I2.big)
  have old : ∀ b ∈ fp, b < z2.heap.objs.size := fun b hb => have ⟨o, e, _⟩ := T.obj _ _ st2 b hb; Heap.lt_size e
  have f3 : ∀ b ∈ fp, FpOk X pins (upd H2 da (.dK [])) b ∧ b < z3.heap.objs.size := fun b hb => by
    refine ⟨⟨by rw [upd_ne (by rw [← hd]; exact Nat.ne_of_lt (old b hb))]; exact (f2 b hb).1, (f2 b hb).2⟩, ?_⟩
    rw [h3, Heap.size_push]; exact Nat.lt_succ_of_lt (old b hb)
  have st3 : tn 0 z3.heap := T.keep _ _ _ st2 fun b _ o e => by rw [h3]; exact Heap.get?_push_of_some _ e
  have n3 : ∀ b ∈ fp, (upd H2 da (.dK [])) b = none := fun b hb => (f3 b hb).1.1
  generalize hH3 : upd H2 da (.dK []) = H3 at I3 w0 f3 n3
  have I4 := block_start I3 ok hN f3
  show codeAny _ _ (.compStart (two kx vx ta ia tb ib sc po) 0 (.ref it) (.ref da) (compEnvC sc (cellsFrom (z3.heap.objs.size + 1) sc.names (cloFrom X.env.cells sc.names [])) z3.heap.objs.size X.env)) (compPost (model X.prog X.w) X.A X.xe use Qf (.ref da) z3.heap.objs.size) { z3 with heap := pushCells (z3.heap.push { cls := .type "dict", data := .dict #[] }) sc.names }
  generalize cellsFrom (z3.heap.objs.size + 1) sc.names (cloFrom X.env.cells sc.names []) = cells at I4 ⊢
  have pg := hg z3 H3 z3.heap.objs.size cells fp
  have pj := hj z3 H3 z3.heap.objs.size cells fp
  have pg2 := hg2 z3 H3 z3.heap.objs.size cells fp
  have pk := hk z3 H3 z3.heap.objs.size cells fp
  have pv := he z3 H3 z3.heap.objs.size cells fp
  generalize hce : compEnvC sc cells z3.heap.objs.size X.env = ce at I4 pg pj pg2 pk pv ⊢
  have cL : ce.locals = z3.heap.objs.size := by subst hce; rfl
  generalize hz4 : ({ z3 with heap := pushCells (z3.heap.push { cls := .type "dict", data := .dict #[] }) sc.names } : Shared) = z4 at I4 ⊢
  have st4 : tn 0 z4.heap := T.keep _ _ _ st3 fun b _ o e => by rw [← hz4]; exact pushCells_keeps _ _ _ _ (Heap.get?_push_of_some _ e)
  have stat : ∀ {σ' : L2.St} {H' : Hp} {z' : Shared}, Inv (X.blk z3 H3 sc ce fp) [] σ' H' z' → ∀ H', (∀ b ∈ fp, H' b = none) → ∀ b ∈ fp, FpOk (X.blk z3 H3 sc ce fp) [] H' b := fun {σ' _ z'} I' H' hn b hb =>
    ⟨hn b hb, (I'.ok.exf b hb).1, I'.ok.exfs b hb, .inl hb, fun x c e => (I'.ok.exf b hb).2 x c e, fun p hp => absurd (show p ∈ ([] : List (Addr × Obj)) ++ [] from hp) (by simp)⟩
  have run : codeAny (model X.prog X.w) X.A (.compLoop (two kx vx ta ia tb ib sc po) 0 (.ref it) (.ref da) ce) (compPost (model X.prog X.w) X.A X.xe use Qf (.ref da) z3.heap.objs.size) z4 := by
    refine loop_a (hs2 ce) (fun n z' => ∃ i H', Inv (X.blk z3 H3 sc ce fp) [] (L2.wipe σ (own.map (·.2))) H' z' ∧ tn i z'.heap ∧ (∀ b ∈ fp, H' b = none) ∧ W i n H') ?_ m0 ⟨0, H3, I4, st4, n3, w0⟩
    rintro n z5 ⟨i, H5, I5, st5, n5, w5⟩
    rcases tu i n H5 w5 with ⟨sp, qq⟩ | ⟨go, Nx, hNx, step⟩
    · refine L2.thnF (T.done (X.blk z3 H3 sc ce fp) rfl rfl rfl hc i [] z5 _ H5 (fun _ _ => False) I5 (stat I5 H5 n5) st5 sp) fun r z6 ⟨hr, I6⟩ => ?_
      subst hr
      have I7 : Inv X pins σ H5 z6 := I3.call' (ch := fp) I6.os I6.base I6.hok I6.bare fun b hb => ⟨(f3 b hb).1.2.2.2.1, (f3 b hb).1.2.1, (f3 b hb).1.2.2.2.2.1, (f3 b hb).1.2.2.2.2.2⟩
      obtain ⟨m, hn, _⟩ := I6.loc
      exact fin da z3.heap.objs.size z6 m H5 I7 qq (by rw [← cL]; exact hn) (I3.fpOk (Nat.le_refl _) (by rw [← cL]; exact I6.free))
    · refine one_turn (X := X.blk z3 H3 sc ce fp) (E := errs X.prog X.w X.A ce _) T hc pg I5 (stat I5 H5 n5) (stat I5) st5 go step (fun v z6 hw => wpAny_mono hw (fun _ z7 h7 => wpAny_mono h7 (fun _ z8 ⟨σ8, H8, hp, I8, t8, ob8, w8, q8⟩ => ?_) fun _ _ y => y) fun _ _ y => y) (fun x => L2.thnF x fun _ _ y => y)
      have l8 : (L2.wipe σ (own.map (·.2))).length = σ8.length := by rw [← w8, L2.wipe_length]
      have k8 : ∀ (j : Nat) v, (L2.wipe σ (own.map (·.2)))[j]? = some (some v) → (L2.wipe σ8 v2)[j]? = some (some v) := fun j v e => by
        rw [← w8] at e
        obtain ⟨e1, e2⟩ := L2.wipe_some e
        rw [L2.wipe_out fun z => e2 (hv j z)]; exact e1
      -- the end of the turn
      have back : ∀ {z' : Shared} {H' : Hp}, Inv (X.blk z3 H3 sc ce fp) ([] ++ pinsAt fp hp) (L2.wipe σ8 v2) H' z' → Nx H' → ∃ m, m < n ∧ ∃ i H', Inv (X.blk z3 H3 sc ce fp) [] (L2.wipe σ (own.map (·.2))) H' z' ∧ tn i z'.heap ∧ (∀ b ∈ fp, H' b = none) ∧ W i m H' := fun {z' H'} I' nx => by
        obtain ⟨m', hm, w'⟩ := hNx H' nx
        exact ⟨m', hm, i + 1, H', (I'.unpinned (pins := [])).weak (l8.trans (L2.wipe_length σ8 v2).symm) k8, T.keep _ _ _ t8 fun b hb o e => (pins_keep I' hb e).1, fun b hb => have ⟨o, e, _⟩ := ob8 b hb; (pins_keep I' hb e).2, w'⟩
      refine L2.thnF (pj.run _ z8 σ8 H8 _ I8 q8) fun xv z9 hx => L2.thnF hx fun iv z10 h10 => ?_
      obtain ⟨jt, fq, tm, J1, H10, rfl, I10, T1, s10, f10, V, ⟨m1, w1⟩, tu1⟩ := h10
      have stat1 : ∀ H' : Hp, (∀ b ∈ fq, H' b = none) → ∀ b ∈ fq, FpOk (X.blk z3 H3 sc ce fp) ([] ++ pinsAt fp hp) H' b := fun H' hn b hb => ⟨hn b hb, (f10 b hb).2⟩
      have run1 : codeAny (model X.prog X.w) X.A (.compLoop (two kx vx ta ia tb ib sc po) 1 (.ref jt) (.ref da) ce) (fun r z' => match r with
          | .ok _ => ∃ m, m < n ∧ ∃ i H', Inv (X.blk z3 H3 sc ce fp) [] (L2.wipe σ (own.map (·.2))) H' z' ∧ tn i z'.heap ∧ (∀ b ∈ fp, H' b = none) ∧ W i m H'
          | .error _ => False) z10 := by
        refine loop_b (fun k z' => ∃ j H', Inv (X.blk z3 H3 sc ce fp) ([] ++ pinsAt fp hp) (L2.wipe σ8 v2) H' z' ∧ tm j z'.heap ∧ (∀ b ∈ fq, H' b = none) ∧ V j k H') ?_ m1 ⟨0, H10, I10.weak (L2.wipe_length _ _) (fun j v e => (L2.wipe_some e).1), s10, fun b hb => (f10 b hb).1, w1⟩
        rintro k z11 ⟨j, H11, I11, s11, n11, w11⟩
        rcases tu1 j k H11 w11 with ⟨sp1, nx1⟩ | ⟨go1, Ny, hNy, step1⟩
        · refine L2.thnF (T1.done (X.blk z3 H3 sc ce fp) rfl rfl rfl hc j _ z11 (L2.wipe σ8 v2) H11 (fun _ _ => False) I11 (stat1 H11 n11) s11 sp1) fun r z12 ⟨hr, I12⟩ => ?_
          subst hr
          exact back I12 nx1
        · refine one_turn (X := X.blk z3 H3 sc ce fp) (E := errs X.prog X.w X.A ce _) T1 hc pg2 I11 (stat1 H11 n11) stat1 s11 go1 step1 (fun v z12 hw => wpAny_mono hw (fun _ z13 h13 => wpAny_mono h13 (fun _ z14 ⟨σ14, H14, hp1, I14, t14, ob14, w14, q14⟩ => ?_) fun _ _ y => y) fun _ _ y => y) (fun x => L2.thnF x fun _ _ y => y)
          refine L2.thnF (pk.run _ z14 σ14 H14 _ I14 q14) fun kk z15 ⟨y, H15, I15, r15, q15⟩ => L2.thnF (pv.run _ z15 σ14 H15 _ I15 q15) fun vv z16 ⟨u, H16, I16, r16, kvs, ke, ek, e16, l16, nx⟩ => ?_
          subst ek
          refine d_dictSet (X := X.blk z3 H3 sc ce fp) I16 e16 l16 r15 r16 fun z17 I17 => ?_
          obtain ⟨m', hm, w'⟩ := hNy _ nx
          exact ⟨m', hm, j + 1, _, I17.unpinned.weak (by rw [← w14, L2.wipe_length]) (fun j v e => by rw [← w14] at e; exact (L2.wipe_some e).1), T1.keep _ _ _ t14 fun b hb o e => (pins_keep I17 hb e).1, fun b hb => have ⟨o, e, _⟩ := ob14 b hb; (pins_keep I17 hb e).2, w'⟩
      exact start_b run1 (T1.self X.A 0 _ _ _ s10 run1)
  exact codeAny_compStart_dict run (T.self X.A 0 _ _ _ st4 run)
theorem pe_dc2 {kx vx ta ia tb ib : Expr} {sc : Scope} {own : List (Str × Nat)} {v2 : List Nat} {po : Pos} {wi wj : TI} {g g2 : TG} {tk tv : TE} (hc : X.calm = true) (hN : X.N.Nodup) (hi : PI X ta ia wi) (ok : BlkOk X.N X.env.scope sc own) (hv : ∀ i ∈ v2, i ∈ own.map (·.2))
    (hg : ∀ (s : Shared) (H : Hp) (C : Addr) (cl : List (Str × Addr)) (fp : List Addr), PG (X.blk s H sc (compEnvC sc cl C X.env) fp) ta g) (hj : ∀ (s : Shared) (H : Hp) (C : Addr) (cl : List (Str × Addr)) (fp : List Addr), PI (X.blk s H sc (compEnvC sc cl C X.env) fp) tb ib wj)
    (hg2 : ∀ (s : Shared) (H : Hp) (C : Addr) (cl : List (Str × Addr)) (fp : List Addr), PG (X.blk s H sc (compEnvC sc cl C X.env) fp) tb g2) (hk : ∀ (s : Shared) (H : Hp) (C : Addr) (cl : List (Str × Addr)) (fp : List Addr), PE (X.blk s H sc (compEnvC sc cl C X.env) fp) kx tk)
    (he : ∀ (s : Shared) (H : Hp) (C : Addr) (cl : List (Str × Addr)) (fp : List Addr), PE (X.blk s H sc (compEnvC sc cl C X.env) fp) vx tv) (hs : ∀ x, foldedSetIterable ia X.env x = pure x := by intro _; rfl) (hs2 : ∀ env x, foldedSetIterable ib env x = pure x := by intro _ _; rfl) :
    PE X (.DictComp kx vx [⟨ta, ia, [], 0⟩, ⟨tb, ib, [], 0⟩] sc po) (tDc2 wi g wj g2 tk tv (own.map (·.2)) v2) := by
  refine ⟨fun pins s σ H Q I h => ?_⟩
  rw [arm_eval_DictComp]
  refine core2 hc hN I hi ok hv hg hj hg2 hk he hs hs2 h fun da C z' m H' I' q hn ⟨f0, f1, _, f3, f4, f5⟩ => ⟨m, hn, fun h'' sb => ⟨.ref da, H', I'.turned (t' := z'.toks) (fun b o hb e => (sb.2 b hb).trans e) f0 f1 f3 f4 f5, rfl, q⟩⟩
end
end DL
set_option Elab.async false
set_option linter.all false
set_option maxRecDepth 100000
set_option maxHeartbeats 2000000
/-! DL, part n: more rules: repr of a bool, reversed lists, displays of dicts, stars, making an object, calls by keywords, dict comprehensions of two clauses. -/
namespace DL
open PySem L2
def rReprX : List V → Hp → VK → Prop := fun xs H Q => ∃ b : Bool, xs = [.bl b] ∧ Q (.str (if b then "True" else "False")) H
theorem call_reprX {X : Cx} : CallR X (.builtin "repr") rReprX := by
  intro pins s σ H xs us Q I r h
  obtain ⟨b, rfl, q⟩ := h
  obtain ⟨u, rfl, t⟩ := vals1 r
  cases t
  exact PySem.P.repr_of_bool ⟨.str _, H, I.tok _, ⟨_, rfl⟩, q⟩
/-- the same without its binding -/
structure FP (P : Program) (w : World) (K : PySem.W.Frag) (mg : Str → Option Value) (base : Heap) (k : Nat) (f : Addr) (fd : FuncData) (ps : List Str) (sp : Sp) : Prop where
  ok : FnOk P w K mg base CX0 k f fd ps sp
  kp : PySem.W.keepIn K (.ref f) = true
abbrev tRevX (K : PySem.W.Frag) (te : TE) : TE := L2.tRevL K te
section
variable {X : Cx}
/-- f(k = v, ..) -/
theorem pe_fnN0 {k j : Nat} {f : Addr} {fd : FuncData} {ps ks : List Str} {sp : Sp} {x : Str} {p pos : Pos} {g : List Value → List Value → List Value} {gV : List V → List V → List V} {kws : List Keyword} {tk : TA} (c : FC X.prog X.w X.K X.mg X.base k f fd ps sp) (hb : KBn X.K fd ps 0 ks g gV) (hr : Room j X.A) (hk : k ≤ j) (hm : X.mg x = some (.ref f)) (hkw : PK X kws tk) (hg : Gl X x := by rfl)
    (hall : (backToKw pos (keywordEach kws X.env)).all (·.1.isSome) = true := by rfl) (hks : (backToKw pos (keywordEach kws X.env)).filterMap (·.1) = ks := by rfl) (hdb : (x == ("__debug__" : Str)) = false := by decide)
    (hpl : ((backTo pos (starEach [] X.env)).any (·.1) || (backToKw pos (keywordEach kws X.env)).any (·.1.isNone)) = false := by rfl) : PE X (.Call (.Name x p) [] kws pos) (tCallN 0 ks.length sp gV E0 tNil tk) := by
  refine ⟨fun pins s σ H Q I h => PySem.wpAny_Call_Name_kw (ld_glob I hg hm ?_ hdb)⟩
  refine PySem.W.callWith_KW0 (h₀ := X.base) I.ok.mod.kin c.kp hall (thn (hkw.run pos pins s σ H _ I h) fun ws s2 ⟨zs, H2, I2, rz, l1, l2, q2⟩ => ⟨I2.kIn, ?_⟩) hpl
  rw [hks]
  exact run_fnN (us := []) (vs := []) c.ok (hr.mono hk) hb pass0 I2 .nil rz rfl l2 q2
/-- C(e, ..), defaults behind -/
theorem pe_mkD {k j : Nat} {f C : Addr} {fd : FuncData} {ps : List Str} {sp : Sp} {dvs : List V} {ds : List Value} {x : Str} {p pos : Pos} {e : Expr} {es : List Expr} {t : TA} (c : FnOk X.prog X.w X.K X.mg X.base CX0 k f fd ps sp) (hb : Binds X.K fd ps ds) (hd : Vals dvs ds) (M : Mk X.K C f) (hr : Room j X.A) (hk : k + 1 ≤ j) (hm : X.mg x = some (.ref C)) (ha : PA X (e :: es) t) (hg : Gl X x := by rfl) (hdb : (x == ("__debug__" : Str)) = false := by decide)
    (he : starEach (e :: es) X.env = (false, eval e X.env) :: starEach es X.env := by rfl) (hpl : (backTo pos (starEach es X.env)).any (·.1) = false := by rfl) : PE X (.Call (.Name x p) (e :: es) [] pos) (tMake C sp dvs E0 t) :=
  pe_make M c (hr.mono hk) hg hm hb hd pass0 ha hdb he hpl
theorem pe_revX {e : Expr} {te : TE} {k : Nat} {p1 p2 p3 pos : Pos} (he : PE X e te) : PE X (.Subscript e (.Slice none none (some (.UnaryOp .USub (.Constant (.int 1) k p1) p2)) p3) pos) (tRevX X.K te) := pe_revL he
end
section
variable [Wld] {K : PySem.W.Frag} {m n n1 n2 n3 : Nat} {d x y z : D} {Γ Γ' : Gm} {te ta tb tc : TE} {t u : TS} {tt : TT} {tr : TA} {P P1 P2 P3 : D → Prop} {R : Posts}
def repF (b : Bool) : D := .str (if b then "True" else "False")
theorem e_repr {b : Bool} (h : DR K te Γ n (· = .bl b)) : DF K (tCB rReprX (tCons te tNil)) Γ n (· = repF b) := by
  intro m B H σ le sg Q k
  refine h m B H σ le sg _ fun v B1 H1 x g1 le1 r1 p1 => ?_
  subst p1
  have e := rv_scal r1 rfl
  subst e
  exact ⟨b, rfl, k _ B1 H1 _ g1 le1 (.str _) rfl⟩
theorem w_rev (h : DR K te Γ n P1) (hf : ∀ x, P1 x → ∃ ds, x = .lst ds ∧ P (.lst ds.reverse)) : DW K (tRevX K te) Γ n P := by
  intro m B H σ le sg Q k
  refine h m B H σ le sg _ fun v B1 H1 x g1 le1 r1 p1 => ?_
  obtain ⟨ds, rfl, p⟩ := hf x p1
  obtain ⟨a, vs, rfl, e, r⟩ := rv_lst r1 le1
  refine ⟨a, vs, rfl, .inl (.inl e), fun p hp => ?_⟩
  obtain ⟨g2, le2, ho⟩ := new_lst le1 hp r.reverse
  exact k p B1 _ _ (g1.trans g2) le2 (new_of g1 le1 hp) ho ‹_›
theorem ew_rev {ds : List D} (h : DR K te Γ n (· = .lst ds)) : DW K (tRevX K te) Γ n (· = .lst ds.reverse) := w_rev h fun _ e => ⟨ds, e, rfl⟩
/-! ### or, and by truth -/
theorem tru_rv {B : Kn} {H : Hp} {v : V} {b : Bool} (r1 : Rv K B H v x) (le1 : Le m B H) (hb : truF x = some b) : TruV K v H b := by
  cases x with
  | non => rw [rv_scal r1 rfl]; cases hb; rfl
  | bl _ => rw [rv_scal r1 rfl]; cases hb; rfl
  | int _ => rw [rv_scal r1 rfl]; cases hb; rfl
  | str s =>
    rw [rv_scal r1 rfl]
    unfold truF at hb
    dsimp only at hb
    split at hb
    · rename_i w; cases hb; exact ⟨w, rfl⟩
    · cases hb
  | lst xs =>
    obtain ⟨a, vs, rfl, h1, r⟩ := rv_lst r1 le1
    cases hb
    exact .inl ⟨vs, .inl (.inl h1), by rw [r.empty]⟩
  | tup xs =>
    obtain ⟨a, vs, rfl, h1, r, _⟩ := rv_tup r1 le1
    cases hb
    exact .inr (.inl ⟨vs, h1, by rw [r.empty]⟩)
  | _ => cases hb
theorem f_orT (h : DF K ta Γ n1 P1) (hb : ∀ d, P1 d → ∃ b, truF d = some b ∧ (b = true → P d)) (h2 : DF K tb Γ n2 P) : DF K (tOrT K ta tb) Γ (n1 + n2) P := by
  intro m B H σ le sg Q k
  refine h (m + n2) B H σ (le.mono (by omega)) sg _ fun v B1 H1 x g1 le1 hi p1 => ?_
  obtain ⟨b, e, p⟩ := hb x p1
  refine ⟨b, tru_rv (.inl hi) le1 e, ?_⟩
  cases b with
  | true => exact iteT (k v B1 H1 x g1 (le1.mono (by omega)) hi (p rfl))
  | false => exact iteF (h2 m B1 H1 σ le1 (sg.go g1) _ fun w B2 H2 y g2 le2 hi2 p2 => k w B2 H2 y (g1.trans g2) le2 hi2 p2)
/-! ### the display of a dict -/
def DPr (K : PySem.W.Frag) (trs : List (TE × TE)) (Γ : Gm) (kds : List (Key × D)) : Prop :=
  ∀ m B H σ, Le m B H → Sg K B H σ Γ → ∀ Q : List (V × V) → Hp → Prop, (∀ kvs B' H', Go B H B' H' → Le m B' H' → IsK K B' kvs kds → Q (kvs.map fun kv => (kV kv.1, kv.2)) H') → tPairs trs σ H Q
theorem pr_nil : DPr K [] Γ [] := fun m B H σ le sg Q k => k [] B H (Go.refl B H) le .nil
theorem pr_cons {trs : List (TE × TE)} {kds : List (Key × D)} {q : Key} (hq : keyD x = some q) (hk : DF K ta Γ 0 (· = x)) (hv : DF K tb Γ 0 (· = y)) (hr : DPr K trs Γ kds) : DPr K ((ta, tb) :: trs) Γ ((q, y) :: kds) := by
  intro m B H σ le sg Q k
  refine hk m B H σ le sg _ fun v B1 H1 d1 g1 le1 hi p1 => hv m B1 H1 σ le1 (sg.go g1) _ fun w B2 H2 d2 g2 le2 hi2 p2 => hr m B2 H2 σ le2 (sg.go (g1.trans g2)) _ fun kvs B3 H3 g3 le3 r => ?_
  subst p1; subst p2
  have e : v = kV q := keyD_v (B := B1) (H := H1) hq (.inl hi)
  subst e
  exact k ((q, w) :: kvs) B3 H3 ((g1.trans g2).trans g3) le3 (.cons (hi2.mono g3.b) r)
theorem merge_nd : ∀ {more kvs : List (Key × V)}, ((kvs ++ more).map (·.1)).Nodup → mergeK kvs more = kvs ++ more
  | [], kvs, _ => by rw [List.append_nil]; rfl
  | p :: more, kvs, h => by
    have e : mergeK kvs (p :: more) = mergeK (putK kvs p.1 p.2) more := rfl
    have hn : valV kvs p.1 = none := by
      unfold valV
      rw [Option.map_eq_none_iff, List.find?_eq_none]
      intro q hq hqe
      have hqe := of_decide_eq_true hqe
      rw [List.map_append, List.nodup_append] at h
      exact h.2.2 q.1 (List.mem_map.mpr ⟨q, hq, rfl⟩) p.1 (by rw [List.map_cons]; exact List.mem_cons_self ..) hqe
    rw [e, putK_new p.2 hn, merge_nd (by rw [List.append_assoc]; exact h), List.append_assoc]
    rfl
theorem ew_disp {trs : List (TE × TE)} {kds : List (Key × D)} (h : DPr K trs Γ kds) (hn : (kds.map (·.1)).Nodup) (hl : kds.length ≤ 15) : DW K (tDisp trs) Γ 0 (· = .dK kds) := by
  intro m B H σ le sg Q k p hp
  obtain ⟨g1, le1, ho⟩ := new_dK (le.mono (by omega) : Le m B H) hp (.nil : IsK K B [] [])
  refine h m B _ σ le1 (sg.go g1) _ fun kvs B' H' g2 le2 r => ?_
  obtain ⟨hb, vs, e, r0⟩ := ho.go g2
  cases r0
  refine ⟨e, kvs, rfl, by rw [r.length]; exact hl, ?_⟩
  have em : mergeK [] kvs = kvs := by rw [merge_nd (by rw [List.nil_append, r.keys]; exact hn)]; rfl
  rw [em]
  obtain ⟨g5, le5⟩ := own_change (o := .dK kvs) (g1.trans g2) hp le2 hb
  exact k p B' _ (.dK kds) g5 le5 hp ⟨hb, kvs, upd_same, r⟩ rfl
/-! ### stars -/
theorem a_star {ds es : List D} (h : DF K te Γ 0 (· = x)) (hx : isSeq x = some es) (hr : DA K tr Γ 0 (· = ds)) : DA K (StX.tStar K te tr) Γ 0 (· = es ++ ds) := by
  intro m B H σ le sg Q k
  refine h m B H σ le sg _ fun v B1 H1 d1 g1 le1 hi p1 => ?_
  subst p1
  obtain ⟨kk, a, vs, rfl, r, at_⟩ := seq_src hi le1 hx
  have s1 := at_ m B1 H1 (fun _ _ z => z) le1
  refine ⟨a, vs, rfl, ?_, hr m B1 H1 σ le1 (sg.go g1) _ fun ws B2 H2 d2 g2 le2 hs p2 => ?_⟩
  · cases kk with
    | true => exact .inr s1
    | false => exact .inl s1
  · subst p2
    exact k (vs ++ ws) B2 H2 _ (g1.trans g2) le2 ((r.mono g2.b).append hs) rfl
/-! ### calls by keywords alone -/
def pmV (ix : List Nat) : List V → List V → List V := fun _ zs => ix.map fun i => zs.getD i .non
def pmW (ix : List Nat) : List Value → List Value → List Value := fun _ zs => ix.map fun i => zs.getD i .none
def pmD (ix : List Nat) (zs : List D) : List D := ix.map fun i => zs.getD i .non
theorem vals_getD : ∀ {vs : List V} {us : List Value} (i : Nat), Vals vs us → RelV (vs.getD i .non) (us.getD i .none)
  | _, _, i, .nil => by show Value.none = Value.none; rfl
  | _, _, 0, .cons h _ => h
  | _, _, i + 1, .cons _ r => vals_getD i r
theorem pm_rel {ix : List Nat} {vs zs : List V} {us ws : List Value} (_ : Vals vs us) (r : Vals zs ws) : Vals (pmV ix vs zs) (pmW ix us ws) := by
  unfold pmV pmW
  induction ix with
  | nil => exact .nil
  | cons i ix ih => exact .cons (vals_getD i r) ih
theorem isL_getD {B : Kn} : ∀ {vs : List V} {ds : List D} (i : Nat), IsL K B vs ds → Is K B (vs.getD i .non) (ds.getD i .non)
  | _, _, i, .nil => .non
  | _, _, 0, .cons h _ => h
  | _, _, i + 1, .cons _ r => isL_getD i r
theorem pm_is {B : Kn} {ix : List Nat} {vs ws : List V} {ds : List D} (r : IsL K B ws ds) : IsL K B (pmV ix vs ws) (pmD ix ds) := by
  unfold pmV pmD
  induction ix with
  | nil => exact .nil
  | cons i ix ih => exact .cons (isL_getD i r) ih
theorem e_callN {ix : List Nat} {l : Nat} {C : Ct} {ds : List D} {E : XK} (h : DA K tr Γ 0 (· = ds)) (hl : ds.length = l) (hc : C (pmD ix ds) P) : DF K (tCallN 0 l (spF K n C) (pmV ix) E tNil tr) Γ n P := by
  intro m B H σ le sg Q k
  refine h (m + n) B H σ le sg _ fun vs B1 H1 es g1 le1 hs p => ?_
  subst p
  exact ⟨rfl, by rw [hs.length]; exact hl, m, B1, _, P, le1, pm_is hs, hc, fun v B2 H2 d g2 le2 hi q => k v B2 H2 d (g1.trans g2) le2 hi q⟩
theorem ew_callN {ix : List Nat} {l : Nat} {C : Ct} {ds : List D} {E : XK} (h : DA K tr Γ 0 (· = ds)) (hl : ds.length = l) (hc : C (pmD ix ds) P) : DW K (tCallN 0 l (spW K n C) (pmV ix) E tNil tr) Γ n P := by
  intro m B H σ le sg Q k
  refine h (m + n) B H σ le sg _ fun vs B1 H1 es g1 le1 hs p => ?_
  subst p
  exact ⟨rfl, by rw [hs.length]; exact hl, m, B1, _, P, le1, pm_is hs, hc, fun v B2 H2 d g2 le2 hn hi q => k v B2 H2 d (g1.trans g2) le2 (new_of g1 le1 hn) hi q⟩
/-! ### making an object -/
def spI (K : PySem.W.Frag) (A : Addr) (n : Nat) (C : Ct) : Sp := fun vs H Q _ => ∃ m B H0 o dx ws ds P, vs = .ref o :: ws ∧ Go B H0 B H ∧ H0 o = none ∧ B o = none ∧ Le (m + n) B H ∧ IsL K B ws ds ∧ H o = some (.ins A dx []) ∧ C ds P ∧
  ∀ B' H' fs, Go B H0 B' H' → Le m B' H' → Own K B' H' o (.ins A fs) → P (.ins A fs) → Q .non H'
theorem w_make {A : Addr} {C : Ct} {dvs : List V} {dds : List D} {E : XK} {PA : List D → Prop} (h : DA K tr Γ n1 PA) (hd : ∀ B, IsL K B dvs dds) (hc : ∀ ds, PA ds → C (ds ++ dds) P) : DW K (tMake A (spI K A n C) dvs E tr) Γ (n1 + n) P := by
  intro m B H σ le sg Q k
  refine h (m + n) B H σ (le.mono (by omega)) sg _ fun vs B1 H1 ds g1 le1 hs p o dx ho hdx ne => ?_
  obtain ⟨g2, le2, b2⟩ := go_new (o := .own o) le1 hdx
  have ho2 : (upd H1 dx (.own o)) o = none := by rw [upd_ne ne.symm]; exact ho
  obtain ⟨g3, le3, b3⟩ := go_new (o := .ins A dx []) le2 ho2
  refine ⟨m, B1, H1, o, dx, vs ++ dvs, ds ++ dds, P, rfl, g2.trans g3, ho, b3, le3, hs.append (hd B1), upd_same, hc ds p, fun B' H' fs g4 le4 own pf => ⟨rfl, ?_⟩⟩
  exact k o B' H' _ (g1.trans g4) le4 (new_of g1 le1 ho) own pf
theorem ew_make {A : Addr} {C : Ct} {ds : List D} {E : XK} (h : DA K tr Γ 0 (· = ds)) (hc : C ds P) : DW K (tMake A (spI K A n C) [] E tr) Γ n P :=
  (w_make (n1 := 0) (dds := []) h (fun _ => .nil) (fun _ e => by rw [e, List.append_nil]; exact hc)).le (by omega)
def startI (N : List Str) (o : Addr) (A : Addr) (ds : List D) : Gm := .ow (.ins A []) (· = o) :: (ds.map .val ++ List.replicate (N.length - (ds.length + 1)) .no)
def PoI (m : Nat) (o A : Addr) (P : D → Prop) : Posts := { nx := fun Γ m' => m ≤ m' ∧ ∃ fs, Γ[0]? = some (.ow (.ins A fs) (· = o)) ∧ P (.ins A fs), rt := fun _ _ => False }
theorem startI_sg {B : Kn} {H : Hp} {N : List Str} {vs : List V} {ds : List D} {o A dx : Addr} (r : IsL K B vs ds) (hb : B o = none) (e : H o = some (.ins A dx [])) : Sg K B H (L2.start N (.ref o :: vs)) (startI N o A ds) := by
  have s0 := start_sg (K := K) (B := B) (H := H) (N := N.tail) r
  have e1 : L2.start N (.ref o :: vs) = some (.ref o) :: L2.start N.tail vs := by
    unfold L2.start
    rw [List.map_cons, List.cons_append, List.length_cons, List.length_tail]
    congr 3; omega
  have e2 : startI N o A ds = .ow (.ins A []) (· = o) :: startG N.tail ds := by
    unfold startI startG
    rw [List.length_tail]
    congr 3; omega
  rw [e1, e2]
  have no : ∀ (i : Nat) (d : D) (p : Addr → Prop), (startG N.tail ds)[i]? ≠ some (.ow d p) := fun i d p h => by
    obtain ⟨a, h1, h2, _⟩ := s0.mt i d p h
    have : (L2.start N.tail vs)[i]? = some (some (.ref a)) := h1
    unfold startG at h
    rw [List.getElem?_append] at h
    split at h
    · rw [List.getElem?_map] at h
      cases q : ds[i]? with
      | none => rw [q] at h; cases h
      | some x => rw [q] at h; cases h
    · have := List.mem_of_getElem? h
      rw [List.mem_replicate] at this
      cases this.2
  refine ⟨by rw [List.length_cons, List.length_cons, s0.len], fun i d h => ?_, fun i d p h => ?_, fun i j a d f p q h1 h2 h3 h4 => ?_⟩
  · cases i with
    | zero => cases h
    | succ i => exact s0.val i d h
  · cases i with
    | zero => cases h; exact ⟨o, rfl, ⟨hb, dx, [], e, .nil⟩, rfl⟩
    | succ i => exact (no i d p h).elim
  · cases i with
    | zero =>
      cases j with
      | zero => rfl
      | succ j => exact (no j f q h2).elim
    | succ i => exact (no i d p h1).elim
theorem body_I {C : Ct} {N : List Str} {A : Addr} (h : ∀ o ds P m, C ds P → DS K t (startI N o A ds) (m + n) (PoI m o A P)) : ∀ {vs H Q E}, spI K A n C vs H Q E → t { nx := fun _ H' => Q .non H', rt := Q } (L2.start N vs) H := by
  rintro vs H Q E ⟨m, B, H0, o, dx, ws, ds, P, rfl, g0, o0, b0, le, r, e, c, k⟩
  have sg := startI_sg (N := N) r b0 e
  refine h o ds P m c B H0 B H _ _ ⟨g0, le, sg, fun i d p a h1 h2 => ?_⟩ ⟨fun m' B' H' σ Γ a ⟨hm, fs, h0, q⟩ => ?_, fun _ _ _ _ _ _ f => f.elim, fun _ _ _ _ _ _ f => f.elim, fun _ _ _ _ _ _ _ _ f => f.elim, fun _ _ _ _ _ _ _ _ _ f => f.elim⟩
  · cases i with
    | zero => cases h1; cases h2; exact o0
    | succ i =>
      exfalso
      have : (ds.map Sl.val ++ List.replicate (N.length - (ds.length + 1)) .no)[i]? = some (.ow d p) := h1
      rw [List.getElem?_append] at this
      split at this
      · rw [List.getElem?_map] at this
        cases q : ds[i]? with
        | none => rw [q] at this; cases this
        | some x => rw [q] at this; cases this
      · have := List.mem_of_getElem? this
        rw [List.mem_replicate] at this
        cases this.2
  · obtain ⟨b, h1, h2, h3⟩ := a.sg.mt 0 _ _ h0
    subst h3
    exact k B' H' fs a.go (a.le.mono hm) h2 q
/-! ### {k: v for a in x for b in y} -/
theorem w_dc2 {wi wj : TI} {g g2 : TG} {tk tv : TE} {vs v2 is : List Nat} {ds : List D} (Inv : Nat → Nat → List (Key × D) → Prop) (ins : D → List D) (hi : DI K wi Γ n (· = ds)) (hl : ds.length ≤ 1000) (hl2 : ∀ d ∈ ds, (ins d).length ≤ 1000) (hsub : ∀ j ∈ is, j ∈ vs) (h0 : Inv 0 0 [])
    (hs : ∀ (i : Nat) (d : D), ds[i]? = some d → ∃ Γ1, DG K g is d (wipeG Γ vs) Γ1 ∧ DI K wj Γ1 0 (· = ins d) ∧
      (∀ (j : Nat) (e : D) (acc : List (Key × D)), (ins d)[j]? = some e → Inv i j acc → ∃ js Γ2, (∀ l ∈ js, l ∈ v2) ∧ DG K g2 js e (wipeG Γ1 v2) Γ2 ∧ ∃ q x, DF K tk Γ2 0 (fun y => keyD y = some q) ∧ DF K tv Γ2 0 (· = x) ∧ Inv i (j + 1) (putD acc q x)) ∧
      ∀ acc, Inv i (ins d).length acc → Inv (i + 1) 0 acc)
    (hd : ∀ acc, Inv ds.length 0 acc → P (.dK acc)) : DW K (tDc2 wi g wj g2 tk tv vs v2) Γ n P := by
  intro m B H σ le sg Q k
  refine hi m B H σ le sg _ fun J B1 H1 ds' g1 le1 wk pl o ho => ?_
  subst pl
  refine ⟨fun i mm Hx => mm = ds'.length - i ∧ i ≤ ds'.length ∧ ∃ Bx acc, Go B1 H1 Bx Hx ∧ Le m Bx Hx ∧ Own K Bx Hx o (.dK acc) ∧ Inv i 0 acc ∧ acc.length ≤ i * 1000, ⟨ds'.length, ?_⟩, ?_⟩
  · obtain ⟨g2, le2, hw⟩ := new_dK le1 ho (.nil : IsK K B1 [] [])
    exact ⟨rfl, Nat.zero_le _, B1, [], g2, le2, hw, h0, Nat.zero_le _⟩
  · rintro i mm Hx ⟨rfl, hil, Bx, acc, gx, lex, own, inv, hacc⟩
    by_cases hi2 : i < ds'.length
    · refine .inr ⟨wk.go _ Bx Hx i gx.gz lex hi2, fun Hn => ∃ Bn acc, Go B1 H1 Bn Hn ∧ Le m Bn Hn ∧ Own K Bn Hn o (.dK acc) ∧ Inv (i + 1) 0 acc ∧ acc.length ≤ (i + 1) * 1000, fun H' q => ⟨_, by omega, rfl, by omega, q⟩, fun x H' hy => ?_⟩
      obtain ⟨B2, d, hd2, g2, le2, hi3⟩ := wk.yld _ Bx Hx i x H' gx.gz lex hi2 hy
      obtain ⟨Γ1, dg, di, hin, hout⟩ := hs i d hd2
      have g12 := g1.trans (gx.trans g2)
      have hdl := hl2 d (List.mem_of_getElem? hd2)
      have own2 := own.go g2
      obtain ⟨b2, vs2, e2, r2⟩ := id own2
      have at2 : At K (fun _ => none) (fun b => if b = o then H' b else none) m B2 H' (L2.wipe σ vs) (wipeG Γ vs) := by
        refine ⟨⟨fun _ _ h => (nomatch h), fun b u h _ => ?_, fun b u w h => ?_⟩, le2, (sg.go g12).wipe vs, fun l d p b h1 h2 => ?_⟩
        · split at h
          · rename_i q; subst q; exact ⟨h, b2⟩
          · cases h
        · split at h
          · exact h
          · cases h
        · rw [if_neg]
          rintro rfl
          obtain ⟨c, h3, h4, _⟩ := (sg.wipe vs).mt l d p h1
          rw [h2] at h3; cases h3
          obtain ⟨u, h5⟩ := h4.at_
          rw [new_of g1 le1 ho] at h5; cases h5
      refine dg _ _ _ B2 H' _ x at2 hi3 _ fun σ' a' ag hlen' => ⟨?_, ?_⟩
      · rw [wipe_eq hlen' fun j hj => ag j fun q => hj (hsub j q)]
        exact wipe_eq (wipe_length σ vs) fun j hj => wipe_out hj
      · refine di m B2 H' σ' a'.le a'.sg _ fun J1 B3 H3 es g3 le3 wk1 pl1 => ?_
        subst pl1
        have own3 := own2.go g3
        obtain ⟨b3, vs3, e3, r3⟩ := id own3
        -- the heap without the dict
        generalize hHo : (fun b => if b = o then none else H3 b : Hp) = Ho
        have ho0 : Ho o = none := by rw [← hHo]; exact if_pos rfl
        have hoN : ∀ b u, Ho b = some u → H3 b = some u := fun b u h => by
          rw [← hHo] at h; dsimp only at h; split at h
          · cases h
          · exact h
        have hoB : ∀ b, b ≠ o → Ho b = H3 b := fun b h => by rw [← hHo]; exact if_neg h
        have goZ : ∀ {By Hy}, Go B3 Ho By Hy → Gz B3 H3 By Hy := fun g => ⟨g.b, fun b u w h => g.z b u w (by rw [hoB b fun q => by rw [q, e3] at h; cases h]; exact h)⟩
        have sg3 := a'.sg.go g3
        have sgo : Sg K B3 Ho σ' Γ1 := ⟨sg3.len, sg3.val, fun l d p h => (sg3.mt l d p h).imp fun b ⟨h1, h2, h3⟩ => ⟨h1, h2.keep (fun _ _ z => z) h2.none (fun u hu => by
          rw [hoB b]; exact hu
          rintro rfl
          have := a'.fr l d p _ h h1
          rw [if_pos rfl, e2] at this; cases this), h3⟩, sg3.sep⟩
        refine ⟨fun j kk Hy => kk = (ins d).length - j ∧ j ≤ (ins d).length ∧ ∃ By acc, Go B3 Ho By Hy ∧ Go B1 H1 By Hy ∧ Le m By Hy ∧ Own K By Hy o (.dK acc) ∧ Inv i j acc ∧ acc.length ≤ i * 1000 + j, ⟨(ins d).length, rfl, Nat.zero_le _, B3, acc, ⟨fun _ _ h => h, fun b u h k => ⟨hoN b u h, k⟩, fun b u w h => hoN b _ h⟩, gx.trans (g2.trans g3), le3, own3, inv, by omega⟩, ?_⟩
        rintro j kk Hy ⟨rfl, hjl, By, acc, gz, gy, ley, owy, invy, hacy⟩
        by_cases hj2 : j < (ins d).length
        · refine .inr ⟨wk1.go _ By Hy j (goZ gz) ley hj2, fun Hn => ∃ Bn acc, Go B3 Ho Bn Hn ∧ Go B1 H1 Bn Hn ∧ Le m Bn Hn ∧ Own K Bn Hn o (.dK acc) ∧ Inv i (j + 1) acc ∧ acc.length ≤ i * 1000 + (j + 1), fun H' q => ⟨_, by omega, rfl, by omega, q⟩, fun x1 H6 hy1 => ?_⟩
          obtain ⟨B6, e, he2, g6, le6, hi6⟩ := wk1.yld _ By Hy j x1 H6 (goZ gz) ley hj2 hy1
          obtain ⟨js, Γ2, hjs, dg2, q, xx, dk, dv, inv2⟩ := hin j e acc he2 invy
          refine dg2 _ _ _ B6 H6 _ x1 (at_any le6 ((sgo.go (gz.trans g6)).wipe v2)) hi6 _ fun σ3 a3 ag3 hlen3 => ⟨?_, ?_⟩
          · rw [wipe_eq hlen3 fun j hj => ag3 j fun q => hj (hjs j q)]
            exact wipe_eq (wipe_length σ' v2) fun j hj => wipe_out hj
          · refine dk m B6 H6 σ3 a3.le a3.sg _ fun y B7 H7 kd g7 le7 hi7 pk => dv m B7 H7 σ3 le7 (a3.sg.go g7) _ fun u B8 H8 xd g8 le8 hi8 px => ?_
            subst px
            have ek : y = kV q := keyD_v (B := B7) (H := H7) pk (.inl hi7)
            subst ek
            have ow8 := owy.go (g6.trans (g7.trans g8))
            obtain ⟨b8, vs8, e8, r8⟩ := id ow8
            have hlen8 : acc.length < 16000000 := by have := Nat.mul_le_mul_right 1000 (Nat.le_of_lt hi2); omega
            refine ⟨vs8, q, rfl, e8, size_lt (by rw [r8.length]; exact hlen8), B8, putD acc q xd, ?_⟩
            have g68 := g6.trans (g7.trans g8)
            obtain ⟨ga, lea⟩ := own_change (o := .dK (putK vs8 q u)) (gz.trans g68) ho0 le8 b8
            obtain ⟨gb, leb⟩ := own_change (o := .dK (putK vs8 q u)) (gy.trans g68) ho le8 b8
            have hpl : (putD acc q xd).length ≤ acc.length + 1 := by
              unfold putD
              split
              · rw [List.length_map]; omega
              · rw [List.length_append]; exact Nat.le_refl _
            exact ⟨ga, gb, lea, ⟨b8, _, upd_same, r8.put q hi8⟩, inv2, by omega⟩
        · have e : j = (ins d).length := by omega
          subst e
          exact .inl ⟨wk1.stop _ By Hy (goZ gz) ley, By, acc, gy, ley, owy, hout acc invy, by omega⟩
    · have e : i = ds'.length := by omega
      subst e
      exact .inl ⟨wk.stop _ Bx Hx gx.gz lex, k o Bx Hx _ (g1.trans gx) lex (new_of g1 le1 ho) own (hd acc inv)⟩
theorem spI_len {l : Nat} {A : Addr} {C : Ct} (hl : ∀ ds P, C ds P → ds.length + 1 = l) {vs : List V} {H : Hp} {Q : VK} {E : XK} (h : spI K A n C vs H Q E) : vs.length = l := by
  obtain ⟨m, B, H0, o, dx, ws, ds, P, rfl, _, _, _, _, r, _, c, _⟩ := h
  rw [List.length_cons, r.length]; exact hl ds P c
end
end DL
set_option Elab.async false
set_option linter.all false
set_option maxRecDepth 100000
set_option maxHeartbeats 2000000
/-! DL, part o: rules whose results are told by functions, for proofs that are filled in by tactics. -/
namespace DL
open PySem L2
def leF (x y : D) : Option Bool := match x, y with
  | .int i, .int j => some (decide (i ≤ j))
  | _, _ => none
def geF (x y : D) : Option Bool := match x, y with
  | .int i, .int j => some (decide (j ≤ i))
  | _, _ => none
def subF (x y : D) : Option D := match x, y with
  | .int i, .int j => some (.int (i - j))
  | _, _ => none
def modF (x y : D) : Option D := match x, y with
  | .int i, .int j => if 0 < j then some (.int (i % j)) else none
  | _, _ => none
def divF (x y : D) : Option D := match x, y with
  | .int i, .int j => if 0 < j ∧ j.natAbs.log2 < 9000 then some (.int (i / j)) else none
  | _, _ => none
def powF (x y : D) : Option D := match x, y with
  | .int i, .int j => if 0 ≤ j ∧ (Builtin.Int.intBits i : Int) * j ≤ 2 ^ 27 then some (.int (i ^ j.toNat)) else none
  | _, _ => none
section
variable [Wld] {K : PySem.W.Frag} {m n n1 n2 n3 : Nat} {d x y z : D} {Γ Γ' : Gm} {te ta tb tc : TE} {t u : TS} {tt tA tB' : TT} {tr : TA} {P P1 P2 P3 : D → Prop} {R : Posts} {b c : Bool}
theorem ok_le : ROk K rLe (fun x y => blF (leF x y)) := by
  intro m B H x y d e z le rx ry hf Q k
  cases d <;> try (cases hf; done)
  cases e <;> try (cases hf; done)
  cases hf
  exact ⟨_, _, rv_scal rx rfl, rv_scal ry rfl, k _ B H (Go.refl B H) le (.bl _)⟩
theorem ok_ge : ROk K rGe (fun x y => blF (geF x y)) := by
  intro m B H x y d e z le rx ry hf Q k
  cases d <;> try (cases hf; done)
  cases e <;> try (cases hf; done)
  cases hf
  exact ⟨_, _, rv_scal rx rfl, rv_scal ry rfl, k _ B H (Go.refl B H) le (.bl _)⟩
theorem ok_sub : ROk K rSubI subF := by
  intro m B H x y d e z le rx ry hf Q k
  cases d <;> try (cases hf; done)
  cases e <;> try (cases hf; done)
  cases hf
  exact ⟨_, _, rv_scal rx rfl, rv_scal ry rfl, k _ B H (Go.refl B H) le (.int _)⟩
theorem ok_mod : ROk K rModI modF := by
  intro m B H x y d e z le rx ry hf Q k
  cases d <;> try (cases hf; done)
  cases e <;> try (cases hf; done)
  unfold modF at hf; dsimp only at hf
  split at hf
  · cases hf
    exact ⟨_, _, rv_scal rx rfl, rv_scal ry rfl, ‹_›, k _ B H (Go.refl B H) le (.int _)⟩
  · cases hf
theorem ok_div : ROk K rDivI divF := by
  intro m B H x y d e z le rx ry hf Q k
  cases d <;> try (cases hf; done)
  cases e <;> try (cases hf; done)
  unfold divF at hf; dsimp only at hf
  split at hf
  · cases hf
    exact ⟨_, _, rv_scal rx rfl, rv_scal ry rfl, ‹_›, k _ B H (Go.refl B H) le (.int _)⟩
  · cases hf
theorem ok_pow : ROk K rPowI powF := by
  intro m B H x y d e z le rx ry hf Q k
  cases d <;> try (cases hf; done)
  cases e <;> try (cases hf; done)
  unfold powF at hf; dsimp only at hf
  split at hf
  · cases hf
    exact ⟨_, _, rv_scal rx rfl, rv_scal ry rfl, ‹_›, k _ B H (Go.refl B H) le (.int _)⟩
  · cases hf
theorem ok_isB : ROk K rIsB (fun x y => match x, y with | .bl a, .bl b => some (.bl (decide (a = b))) | _, _ => none) := by
  intro m B H x y d e z le rx ry hf Q k
  cases d <;> try (cases hf; done)
  cases e <;> try (cases hf; done)
  cases hf
  exact ⟨_, _, rv_scal rx rfl, rv_scal ry rfl, k _ B H (Go.refl B H) le (.bl _)⟩
theorem ok_notB : ROk K rNotB (fun x y => match x, y with | .bl a, .bl b => some (.bl (!decide (a = b))) | _, _ => none) := by
  intro m B H x y d e z le rx ry hf Q k
  cases d <;> try (cases hf; done)
  cases e <;> try (cases hf; done)
  cases hf
  exact ⟨_, _, rv_scal rx rfl, rv_scal ry rfl, k _ B H (Go.refl B H) le (.bl _)⟩
theorem e_op' {r : R2} {f : D → D → Option D} (ok : ROk K r f) (ha : DR K ta Γ 0 (· = x)) (hb : DR K tb Γ 0 (· = y)) (h : (f x y).isSome = true) : DF K (tOp r ta tb) Γ 0 (· = (f x y).getD .non) := by
  obtain ⟨z, e⟩ := Option.isSome_iff_exists.mp h
  rw [e]; exact e_op ok ha hb e
theorem ew_op' {r : R2} {f : D → D → Option D} (ok : WOk K r f) (ha : DR K ta Γ 0 (· = x)) (hb : DR K tb Γ 0 (· = y)) (h : (f x y).isSome = true) : DW K (tOp r ta tb) Γ 0 (· = (f x y).getD .non) := by
  obtain ⟨z, e⟩ := Option.isSome_iff_exists.mp h
  rw [e]; exact ew_op ok ha hb e
/-- an operation that tells a bool -/
theorem e_opB {r : R2} {f : D → D → Option Bool} (ok : ROk K r (fun x y => blF (f x y))) (ha : DR K ta Γ 0 (· = x)) (hb : DR K tb Γ 0 (· = y)) (h : (f x y).isSome = true) : DF K (tOp r ta tb) Γ 0 (· = .bl ((f x y).getD false)) := by
  obtain ⟨z, e⟩ := Option.isSome_iff_exists.mp h
  rw [e]; exact e_op ok ha hb (show blF (f x y) = _ by rw [e]; rfl)
theorem e_chain' {r r' : R2} {f g : D → D → Option Bool} (ok : ROk K r (fun x y => blF (f x y))) (ok' : ROk K r' (fun x y => blF (g x y))) (ha : DR K ta Γ 0 (· = x)) (hb : DR K tb Γ 0 (· = y)) (hc : DR K tc Γ 0 (· = z)) (h1 : (f x y).isSome = true) (h2 : (g y z).isSome = true) :
    DF K (tChain r r' ta tb tc) Γ 0 (· = .bl ((f x y).getD false && (g y z).getD false)) := by
  obtain ⟨a, e1⟩ := Option.isSome_iff_exists.mp h1
  obtain ⟨b, e2⟩ := Option.isSome_iff_exists.mp h2
  rw [e1, e2]; exact e_chain ok ok' ha hb hc e1 e2
theorem e_cb' {r : List V → Hp → VK → Prop} {f : D → Option D} (ok : COk K r f) (ha : DR K ta Γ 0 (· = x)) (h : (f x).isSome = true) : DF K (tCB r (tCons ta tNil)) Γ 0 (· = (f x).getD .non) := by
  obtain ⟨z, e⟩ := Option.isSome_iff_exists.mp h
  rw [e]; exact e_cb ok ha e
theorem ew_cb' {r : List V → Hp → VK → Prop} {f : D → Option D} (ok : COw K r f) (ha : DR K ta Γ 0 (· = x)) (h : (f x).isSome = true) : DW K (tCB r (tCons ta tNil)) Γ 0 (· = (f x).getD .non) := by
  obtain ⟨z, e⟩ := Option.isSome_iff_exists.mp h
  rw [e]; exact ew_cb ok ha e
theorem e_len' (ha : DR K ta Γ 0 (· = x)) (h : (lenF x).isSome = true) : DF K (tCB (rLenX K) (tCons ta tNil)) Γ 0 (· = (lenF x).getD .non) := e_cb' ok_len ha h
theorem e_tru' (h : DR K te Γ n (· = d)) (hb : (truF d).isSome = true) : DT K (tTru K te) Γ n (· = (truF d).getD false) := by
  obtain ⟨z, e⟩ := Option.isSome_iff_exists.mp hb
  rw [e]; exact e_tru h e
theorem e_truB (h : DF K te Γ n (· = .bl b)) : DT K (tTru K te) Γ n (· = b) := e_tru h.r rfl
theorem e_or' (h : DT K tA Γ 0 (· = b)) (h1 : b = false → DT K tB' Γ 0 (· = c)) : DT K (tOr tA tB') Γ 0 (· = (b || c)) := e_or h h1
theorem s_norm (e : Γ = Γ') (h : DS K t Γ' m R) : DS K t Γ m R := e ▸ h
theorem es_tgt {g : TG} {is : List Nat} (h : DF K te Γ 0 (· = d)) (hg : DG K g is d Γ Γ') (k : R.nx Γ' m) : DS K (tAsg te g) Γ m R := s_tgt (n := 0) h fun e p => ⟨is, Γ', p ▸ hg, k⟩
end
end DL
set_option Elab.async false
set_option linter.all false
set_option maxRecDepth 100000
set_option maxHeartbeats 2000000
/-! DL, part p: data compared, told on the data side. -/
namespace DL
open PySem L2
/-- scalars: None, bool, int, text -/
def D.flat : D → Bool
  | .non | .bl _ | .int _ | .str _ => true
  | _ => false
theorem str_beq (a b : Str) : (a == b) = decide (a = b) := by
  by_cases h : a = b
  · rw [h]; simp
  · rw [decide_eq_false h]; simpa using h
theorem eqv_str (a b : Str) : D.eqv (.str a) (.str b) = decide (a = b) := by
  show (a == b) = _; exact str_beq a b
theorem eqv_int (a b : Int) : D.eqv (.int a) (.int b) = decide (a = b) := by
  show (a == b) = _
  by_cases h : a = b
  · rw [h]; simp
  · rw [decide_eq_false h]; simpa using h
theorem eqv_bl (a b : Bool) : D.eqv (.bl a) (.bl b) = decide (a = b) := by cases a <;> cases b <;> rfl
def hopD : Option Str → D
  | none => .non
  | some s => .str s
theorem eqv_hop (a b : Option Str) : D.eqv (hopD a) (hopD b) = decide (a = b) := by
  cases a <;> cases b
  · rfl
  · rfl
  · rfl
  · rename_i a b
    show (a == b) = _
    rw [str_beq]
    by_cases h : a = b <;> simp [h]
theorem plain_flat {d : D} (h : d.flat = true) : d.plain = true := by cases d <;> first | rfl | cases h
theorem depth_flat {d : D} (h : d.flat = true) : d.depth = 0 := by cases d <;> first | rfl | cases h
theorem flat_hop (o : Option Str) : (hopD o).flat = true := by cases o <;> rfl
theorem eqF_flat {x y : D} (h1 : x.flat = true) (h2 : y.plain = true) : eqF x y = some (D.eqv x y) := by
  unfold eqF; rw [if_pos ⟨plain_flat h1, h2, by rw [depth_flat h1]; omega⟩]
theorem eqF_flat' {x y : D} (h1 : x.plain = true) (h2 : y.flat = true) : eqF x y = some (D.eqv x y) := by
  unfold eqF; rw [if_pos ⟨h1, plain_flat h2, by rw [depth_flat h2]; omega⟩]
theorem eqF_str (a b : Str) : eqF (.str a) (.str b) = some (decide (a = b)) := by rw [eqF_flat rfl rfl, eqv_str]
theorem eqF_int (a b : Int) : eqF (.int a) (.int b) = some (decide (a = b)) := by rw [eqF_flat rfl rfl, eqv_int]
theorem eqF_bl (a b : Bool) : eqF (.bl a) (.bl b) = some (decide (a = b)) := by rw [eqF_flat rfl rfl, eqv_bl]
theorem eqF_hop (a b : Option Str) : eqF (hopD a) (hopD b) = some (decide (a = b)) := by rw [eqF_flat (flat_hop a) (plain_flat (flat_hop b)), eqv_hop]
theorem eqF_hs (a : Option Str) (b : Str) : eqF (hopD a) (.str b) = some (decide (a = some b)) := eqF_hop a (some b)
/-! ### lists -/
theorem pyL_map {α : Type} (f : α → D) : ∀ l : List α, pyL (l.map f) = l.map fun x => (f x).py
  | [] => rfl
  | x :: l => by rw [List.map_cons, List.map_cons, pyL, pyL_map f l]
theorem eqvAll_map {α : Type} [DecidableEq α] (f : α → D) (h : ∀ a b, D.eqv (f a) (f b) = decide (a = b)) : ∀ l r : List α, PyData.eqvAll (pyL (l.map f)) (pyL (r.map f)) = decide (l = r)
  | [], [] => rfl
  | [], _ :: _ => rfl
  | _ :: _, [] => rfl
  | x :: l, y :: r => by
    show (PyData.eqv (f x).py (f y).py && PyData.eqvAll (pyL (l.map f)) (pyL (r.map f))) = _
    rw [eqvAll_map f h l r]
    have := h x y
    unfold D.eqv at this
    rw [this]
    by_cases h1 : x = y <;> by_cases h2 : l = r <;> simp [h1, h2]
theorem eqv_lst {α : Type} [DecidableEq α] (f : α → D) (h : ∀ a b, D.eqv (f a) (f b) = decide (a = b)) (l r : List α) : D.eqv (.lst (l.map f)) (.lst (r.map f)) = decide (l = r) := eqvAll_map f h l r
theorem eqv_tup {α : Type} [DecidableEq α] (f : α → D) (h : ∀ a b, D.eqv (f a) (f b) = decide (a = b)) (l r : List α) : D.eqv (.tup (l.map f)) (.tup (r.map f)) = decide (l = r) := eqvAll_map f h l r
theorem depthAll_le {k : Nat} : ∀ {l : List D}, (∀ x ∈ l, x.depth ≤ k) → PyData.depthAll (pyL l) ≤ k
  | [], _ => Nat.zero_le _
  | x :: l, h => by
    show max x.py.depth (PyData.depthAll (pyL l)) ≤ k
    exact Nat.max_le.mpr ⟨h x (List.mem_cons_self ..), depthAll_le fun y hy => h y (List.mem_cons_of_mem _ hy)⟩
theorem plain_map {α : Type} {f : α → D} (h : ∀ a, (f a).plain = true) (l : List α) : (D.lst (l.map f)).plain = true := plain_lst.mpr fun x hx => by
  obtain ⟨a, _, rfl⟩ := List.mem_map.mp hx; exact h a
theorem plain_mapT {α : Type} {f : α → D} (h : ∀ a, (f a).plain = true) (l : List α) : (D.tup (l.map f)).plain = true := plain_map h l
theorem depth_map {α : Type} {f : α → D} {k : Nat} (h : ∀ a, (f a).depth ≤ k) (l : List α) : (D.lst (l.map f)).depth ≤ k + 1 := by
  show PyData.depthAll (pyL (l.map f)) + 1 ≤ k + 1
  exact Nat.succ_le_succ (depthAll_le fun x hx => by obtain ⟨a, _, rfl⟩ := List.mem_map.mp hx; exact h a)
theorem eqF_tup {α : Type} [DecidableEq α] {f : α → D} {k : Nat} (hp : ∀ a, (f a).plain = true) (hd : ∀ a, (f a).depth ≤ k) (hk : k < 60) (h : ∀ a b, D.eqv (f a) (f b) = decide (a = b)) (l r : List α) : eqF (.tup (l.map f)) (.tup (r.map f)) = some (decide (l = r)) := by
  have hh : (D.tup (l.map f)).depth ≤ k + 1 := depth_map hd l
  unfold eqF
  rw [if_pos ⟨plain_mapT hp l, plain_mapT hp r, by omega⟩, eqv_tup f h]
theorem eqF_lst {α : Type} [DecidableEq α] {f : α → D} {k : Nat} (hp : ∀ a, (f a).plain = true) (hd : ∀ a, (f a).depth ≤ k) (hk : k < 60) (h : ∀ a b, D.eqv (f a) (f b) = decide (a = b)) (l r : List α) : eqF (.lst (l.map f)) (.lst (r.map f)) = some (decide (l = r)) := by
  have hh : (D.lst (l.map f)).depth ≤ k + 1 := depth_map hd l
  unfold eqF
  rw [if_pos ⟨plain_map hp l, plain_map hp r, by omega⟩, eqv_lst f h]
theorem eqF_walk (l r : List (Option Str)) : eqF (.tup (l.map hopD)) (.tup (r.map hopD)) = some (decide (l = r)) := eqF_tup (k := 0) (fun a => plain_flat (flat_hop a)) (fun a => by rw [depth_flat (flat_hop a)]; exact Nat.le_refl _) (by omega) eqv_hop l r
theorem eqF_nil {xs : List D} (h : ∀ x ∈ xs, x.plain = true) : eqF (.lst xs) (.lst []) = some xs.isEmpty := by
  have hh : (D.lst []).depth = 1 := rfl
  unfold eqF
  rw [if_pos ⟨plain_lst.mpr h, rfl, by omega⟩]
  cases xs <;> rfl
theorem eqF_nilT {xs : List D} (h : ∀ x ∈ xs, x.plain = true) : eqF (.tup xs) (.tup []) = some xs.isEmpty := by
  have hh : (D.tup []).depth = 1 := rfl
  unfold eqF
  rw [if_pos ⟨plain_tup.mpr h, rfl, by omega⟩]
  cases xs <;> rfl
/-! ### x in list -/
theorem inF_seq {α : Type} [DecidableEq α] {f : α → D} {k : Nat} (hp : ∀ a, (f a).plain = true) (hd : ∀ a, (f a).depth ≤ k) (hk : k ≤ 60) (h : ∀ a b, D.eqv (f a) (f b) = decide (a = b)) (x : α) (l : List α) [dec : Decidable (x ∈ l)] : inF (f x) (.lst (l.map f)) = some (decide (x ∈ l)) ∧ inF (f x) (.tup (l.map f)) = some (decide (x ∈ l)) := by
  have e : ((l.map f).any fun z => D.eqv z (f x)) = decide (x ∈ l) := by
    rw [Bool.eq_iff_iff, decide_eq_true_eq, List.any_map, List.any_eq_true]
    constructor
    · rintro ⟨y, hy, q⟩
      have q : D.eqv (f y) (f x) = true := q
      rw [h] at q
      rw [← of_decide_eq_true q]; exact hy
    · intro hx
      exact ⟨x, hx, by show D.eqv (f x) (f x) = true; rw [h]; exact decide_eq_true rfl⟩
  have c : (f x).plain = true ∧ (D.lst (l.map f)).plain = true ∧ min (PyData.depthAll (pyL (l.map f))) (f x).depth ≤ 60 := ⟨hp x, plain_map hp l, by have := hd x; omega⟩
  unfold inF
  dsimp only
  rw [if_pos c, e]
  exact ⟨rfl, rfl⟩
theorem inF_strs (x : Str) (l : List Str) : inF (.str x) (.lst (l.map .str)) = some (decide (x ∈ l)) ∧ inF (.str x) (.tup (l.map .str)) = some (decide (x ∈ l)) :=
  inF_seq (k := 0) (fun _ => rfl) (fun _ => Nat.le_refl _) (by omega) eqv_str x l
theorem inF_hops (x : Option Str) (l : List (Option Str)) : inF (hopD x) (.lst (l.map hopD)) = some (decide (x ∈ l)) ∧ inF (hopD x) (.tup (l.map hopD)) = some (decide (x ∈ l)) :=
  inF_seq (k := 0) (fun a => plain_flat (flat_hop a)) (fun a => by rw [depth_flat (flat_hop a)]; exact Nat.le_refl _) (by omega) eqv_hop x l
theorem inF_dK (x : Str) (kvs : List (Key × D)) : inF (.str x) (.dK kvs) = some (valD kvs (.inr x)).isSome := rfl
/-- a text in a list of any plain values -/
theorem inF_plain {x : D} {l : List D} (hx : x.flat = true) (hl : ∀ y ∈ l, y.plain = true) : inF x (.lst l) = some (l.any fun z => D.eqv z x) ∧ inF x (.tup l) = some (l.any fun z => D.eqv z x) := by
  have c : x.plain = true ∧ (D.lst l).plain = true ∧ min (PyData.depthAll (pyL l)) x.depth ≤ 60 := ⟨plain_flat hx, plain_lst.mpr hl, by rw [depth_flat hx]; omega⟩
  unfold inF
  dsimp only
  rw [if_pos c]
  exact ⟨rfl, rfl⟩
/-! ### items -/
theorem atI_nat' {α : Type} {l : List α} {i : Nat} {x : α} (h : l[i]? = some x) : atI l (i : Int) = some x := atI_nat h
theorem ix_tup {l : List D} {i : Nat} {x : D} (h : l[i]? = some x) : ixF (.tup l) (.int (i : Nat)) = some x := atI_nat h
theorem ix_lst {l : List D} {i : Nat} {x : D} (h : l[i]? = some x) : ixF (.lst l) (.int (i : Nat)) = some x := atI_nat h
end DL
set_option Elab.async false
set_option linter.all false
set_option maxRecDepth 100000
set_option maxHeartbeats 2000000
/-! DL, part q: x != y of an own class that has __eq__ alone. -/
namespace DL
open PySem PySem.Spec PyProof.Rows L2 Builtin
section
variable {pr : Program} {wo : World} {Ar : Around} {E : Value → Shared → Prop} {z : Shared} {K : PySem.W.Frag} {x C f : Addr} {ox : Obj} {od : Option Obj}
/-- a special name that is a built-in's -/
theorem ifBound_B {id : String} {nm : Str} {rest : List Value} {M : Model} {Q : Option Value → Shared → Prop} (kx : K.In z.heap) (J : PySem.W.InstAt z.heap x ox C od) (hs : PySem.W.findIn K (.ref C) nm = some (some (.builtin id))) (hb : ∀ self, bindSpecial (.builtin id) self = pure (.builtin id, [self]))
    (h : wpAny M Ar (call (.builtin id) (.ref x :: rest)) (fun v => Q (some v)) E z) : wpAny M Ar (callSpecialIfBound? (.ref x) nm rest) Q E z := by
  simp only [callSpecialIfBound?, bindSpecialIfBound?]
  refine wpAny_holding (wpAny_bind (wpAny_bind (wpAny_bind (J.type.here ((PySem.W.looks_findIn kx hs).here (wpAny_bind (wpAny_askSetting (wpAny_ite ?_))))))))
  have done : wpAny M Ar (call (.builtin id) ([.ref x] ++ rest) >>= fun v => pure (some v)) Q E z := wpAny_bind (wpAny_mono h (fun v z' q => wpAny_pure q) fun _ _ q => q)
  split
  · exact wpAny_bind (wpAny_of_eq (hb _) (wpAny_pure done))
  · exact wpAny_tryCatch (wpAny_bind (wpAny_of_eq (hb _) (wpAny_pure done)))
theorem objNe {y : Value} {Q : Fin → Shared → Prop} (hu : Ar.units < cLine) (kx : K.In z.heap) (J : PySem.W.InstAt z.heap x ox C od) (hs : PySem.W.findIn K (.ref C) "__eq__" = some (some (.ref f))) (hf : PySem.W.isFn K (.ref f) = true)
    (h : wpAny (model pr wo) Ar (call (.ref f) [.ref x, y]) (fun v z' => ∃ b, v = .bool b ∧ Q (.done (.ret (.bool (!b)))) z') E z) : wpAny (model pr wo) Ar (Builtin.«object.__ne__» ⟨[.ref x, y], []⟩) Q E z := by
  unfold Builtin.«object.__ne__»
  repeat (first
    | with_reducible refine wpAny_cRoomFor hu ?_
    | (refine wpAny_bind (m := callSpecialIfBound? (.ref x) (Str.ofString "__eq__") [y]) (PySem.W.ifBound_K kx J hs hf (wpAny_mono h (fun r z' hr => by
          obtain ⟨b, rfl, hq⟩ := hr
          repeat (first | exact hq | exact wpAny_pure hq | exact wpAny_truthy_bool hq | (refine wpAny_bind (m := truthy (.bool _)) (wpAny_truthy_bool ?_)) | wp_step)) fun _ _ e => e)))
    | wp_step)
end
/-- x != y by the text's own __eq__ -/
def rNeO (C : Addr) (sp : Sp) : R2 := fun x y H Q => ∃ a b dx dy fs gs, x = .ref a ∧ y = .ref b ∧ H a = some (.ins C dx fs) ∧ H b = some (.ins C dy gs) ∧ sp [.ref a, .ref b] H (fun v H' => ∃ r, v = .bl r ∧ Q (.bl (!r)) H') E0
section
variable {X : Cx} {n : Nat} {C f : Addr} {fd : FuncData} {ps : List Str} {sp : Sp}
theorem op_neO (c : FC X.prog X.w X.K X.mg X.base n f fd ps sp) (hs : PySem.W.findIn X.K (.ref C) "__eq__" = some (some (.ref f))) (hf : PySem.W.isFn X.K (.ref f) = true) (hne : PySem.W.findIn X.K (.ref C) "__ne__" = some (some (.builtin "object.__ne__"))) (ho : PySem.W.subIn X.K (.ref C) (.type "object") = some true) (hr : Room (n + 1) X.A) :
    OpR X (compareOp .NotEq) (rNeO C sp) := by
  intro pins s σ H x y v u Q I rx ry h
  obtain ⟨a, b, dx, dy, fs, gs, rfl, rfl, ha, hb, h⟩ := h
  cases rx
  cases ry
  obtain ⟨mA, J, _⟩ := ins_get I.hok ha
  obtain ⟨mB, J', _⟩ := ins_get I.hok hb
  obtain ⟨od, J, _⟩ := J.look
  obtain ⟨od', J', _⟩ := J'.look
  show wpAny _ _ (richCompare .NotEq (.ref a) (.ref b)) _ _ s
  have hu := hu_of hr
  unfold richCompare
  simp only [oneThing_ref]
  refine wpAny_holding (wpAny_bind (wpAny_cRoomFor (Nat.lt_of_succ_lt hu) (wpAny_bind (J.type.here (wpAny_bind (J'.type.here ?_))))))
  rw [show (Value.ref C != Value.ref C) = false from by simp]
  simp only [Bool.false_eq_true, if_false]
  refine wpAny_bind (wpAny_pure ?_)
  simp only [Bool.false_eq_true, if_false]
  unfold tryCompare
  have r1 : Room n X.A.in1 := by
    have q := hr
    exact ⟨q.hd, by have := q.dp; have : X.A.in1.depth = X.A.depth := rfl; omega, by have := q.un; have : X.A.in1.units = X.A.units + 1 := rfl; omega⟩
  refine wpAny_bind (wpAny_bind (ifBound_B I.kIn J hne PySem.F.cmp_object.ne.bind ?_))
  refine wpAny_call (codeAny_call_builtin PySem.F.cmp_object.ne.plain PySem.F.cmpEntry_ne (PySem.W.check_slot PySem.F.cmpKind_ne PySem.F.cmpSplit_ne ?_ (PySem.F.cmpArgs_ne _ _) ?_))
  · exact J.type.andThen (PySem.W.looks_subIn I.kIn ho)
  · have e0 : Env0 X.prog X.w X.K X.mg X.base X.A.in1 X.stack s H := by
      have e := I.env0
      exact ⟨by have : X.A.in1.frames = X.A.frames := rfl; rw [this]; exact e.frames, e.mod, e.bs, e.bsz, e.funs, e.frf, e.hok, e.bare⟩
    have hl := c.ok.len _ _ _ _ h
    have r2 : Vals [V.ref a, V.ref b] [Value.ref a, Value.ref b] := .cons rfl (.cons rfl .nil)
    refine objNe (Ar := X.A.in1) (z := s) (by have := r1.un; omega) I.kIn J hs hf ?_
    refine wpAny_call (codeAny_mono (c.ok.run X.A.in1 X.stack s H ⟨[.ref a, .ref b], []⟩ [.ref a, .ref b] [.ref a, .ref b] _ E0 r1 e0 (by
      have := c.bi s [.ref a, .ref b] I.kIn (by simpa using hl)
      simpa using this) r2 h) fun r s' hq => ?_)
    cases r with
    | error e => exact hq.elim
    | ok fl =>
      cases fl with
      | ret w =>
        obtain ⟨y, H', I', ry, tr, ey, q⟩ := I.after hq
        subst ey
        cases ry
        refine ⟨tr, rfl, ?_⟩
        refine wpAny_pure ?_
        show wpAny _ _ (pure (Value.bool (!tr))) _ _ _
        exact wpAny_pure ⟨.bl (!tr), H', I', rfl, q⟩
      | next => exact False.elim hq
      | brk => exact False.elim hq
      | cont => exact False.elim hq
end
end DL
/-! DL, part r: all parts. -/
set_option Elab.async false
set_option linter.all false
set_option maxRecDepth 100000
set_option maxHeartbeats 2000000
/-! DL, part s: a list unpacked; a loop from what is walked. -/
namespace DL
open PySem L2
section
variable [Wld] {K : PySem.W.Frag} {m n : Nat} {Γ : Gm} {te ta tb : TE} {t : TS} {tr : TA} {d x y : D} {E : XK} {R : Posts} {P : D → Prop}
theorem g_lst {gs : TGs} {is : List Nat} {ds : List D} {l : Nat} {Γ2 : Gm} (h : DGs K gs is ds Γ Γ2) (hl : ds.length = l := by rfl) : DG K (gUnl K l gs) is (.lst ds) Γ Γ2 := by
  intro B0 H0 m B H σ v a hi Q k
  obtain ⟨p, vs, rfl, e, r, _⟩ := is_lst hi a.le
  exact ⟨p, vs, rfl, SqL.of e, by rw [r.length]; exact hl, h B0 H0 m B H σ vs a r Q k⟩
end
section
variable {X : Cx}
/-- f(k = v, ..), the number of the keywords written -/
theorem pe_fnN1 {k j l : Nat} {f : Addr} {fd : FuncData} {ps ks : List Str} {sp : Sp} {x : Str} {p pos : Pos} {g : List Value → List Value → List Value} {gV : List V → List V → List V} {kws : List Keyword} {tk : TA} (c : FC X.prog X.w X.K X.mg X.base k f fd ps sp) (hb : KBn X.K fd ps 0 ks g gV) (hl : ks.length = l) (hr : Room j X.A) (hk : k ≤ j) (hm : X.mg x = some (.ref f)) (hkw : PK X kws tk) (hg : Gl X x := by rfl)
    (hall : (backToKw pos (keywordEach kws X.env)).all (·.1.isSome) = true := by rfl) (hks : (backToKw pos (keywordEach kws X.env)).filterMap (·.1) = ks := by rfl) (hdb : (x == ("__debug__" : Str)) = false := by decide)
    (hpl : ((backTo pos (starEach [] X.env)).any (·.1) || (backToKw pos (keywordEach kws X.env)).any (·.1.isNone)) = false := by rfl) : PE X (.Call (.Name x p) [] kws pos) (tCallN 0 l sp gV E0 tNil tk) := by
  subst hl
  exact pe_fnN0 c hb hr hk hm hkw hg hall hks hdb hpl
end
end DL
set_option Elab.async false
set_option linter.all false
set_option maxRecDepth 100000
set_option maxHeartbeats 2000000
/-! DL, part t: defs whose callers' repr guards are known; repr of data. -/
namespace DL
open PySem L2 PyProof.Rows
mutual
theorem noDict : ∀ d : PyData, d.plain = true → d.hasDict = false
  | .none, _ => by simp only [PyData.hasDict]
  | .bool _, _ => by simp only [PyData.hasDict]
  | .int _, _ => by simp only [PyData.hasDict]
  | .str _, _ => by simp only [PyData.hasDict]
  | .list xs, h => by simp only [PyData.hasDict]; exact noDicts xs h
  | .tuple xs, h => by simp only [PyData.hasDict]; exact noDicts xs h
  | .dict _, h => by cases h
theorem noDicts : ∀ xs : List PyData, PyData.plainAll xs = true → PyData.hasDictAll xs = false
  | [], _ => by simp only [PyData.hasDictAll]
  | x :: xs, h => by
    have h' := Bool.and_eq_true_iff.mp h
    simp only [PyData.hasDictAll, noDict x h'.1, noDicts xs h'.2]; rfl
end
/-! ### a def that may be called where no repr is under way -/
structure FnG (P : Program) (w : World) (K : PySem.W.Frag) (mg : Str → Option Value) (base : Heap) (k : Nat) (f : Addr) (fd : FuncData) (ps : List Str) (sp : Sp) : Prop where
  len : ∀ vs H Q E, sp vs H Q E → vs.length = ps.length
  run : ∀ (A : Around) (outer : List Env) (s : Shared) (H : Hp) (args : Args) (us : List Value) (vs : List V) (Q : VK) (E : XK), A.guards = some [] → Room k A → Env0 P w K mg base A outer s H → BindsTo s fd args (ps.zip us) → Vals vs us → sp vs H Q E →
    codeAny (model P w) A (.call (.ref f) args) (CR CX0 outer P w H s Q E) s
structure FCG (P : Program) (w : World) (K : PySem.W.Frag) (mg : Str → Option Value) (base : Heap) (k : Nat) (f : Addr) (fd : FuncData) (ps : List Str) (sp : Sp) : Prop where
  ok : FnG P w K mg base k f fd ps sp
  bi : Binds K fd ps []
  kp : PySem.W.keepIn K (.ref f) = true
section
variable {P : Program} {w : World} {K : PySem.W.Frag} {mg : Str → Option Value} {base : Heap} {k : Nat} {f : Addr} {sp : Sp} {ps : List Str} {fd : FuncData}
theorem FC.g (c : FC P w K mg base k f fd ps sp) : FCG P w K mg base k f fd ps sp := ⟨⟨c.ok.len, fun A outer s H args us vs Q E _ => c.ok.run A outer s H args us vs Q E⟩, c.bi, c.kp⟩
theorem fnG_of {x qual : Str} {params : Arguments} {body : List Stmt} {scope : Scope} {dV kV doc pm cdv ct oc : Value} {an od : Option Addr} {osl : Array (Option Value)} {N : List Str} (lk : K.lookup f = some ⟨oc, od, .func (PySem.W.fnOf x qual params body scope dV kV doc pm an cdv ct), osl⟩)
    (hcd : PySem.W.codeIn K cdv qual = true) (S : FnScope N ps scope) (len : ∀ vs H Q E, sp vs H Q E → vs.length = ps.length)
    (hb : ∀ (A : Around) (outer : List Env) (s : Shared) (H : Hp) (vs : List V) (Q : VK) (E : XK), (A.deeper (envOfC qual scope s.heap.objs.size f cdv)).guards = some [] → Room k (A.deeper (envOfC qual scope s.heap.objs.size f cdv)) → sp vs H Q E →
      ∃ t, PSs (cxOf CX0 P w K mg base N qual scope f cdv A outer s H E) body t ∧ t { nx := fun _ H' => Q .non H', rt := Q } (L2.start N vs) H) :
    FnG P w K mg base (k + 1) f (PySem.W.fnOf x qual params body scope dV kV doc pm an cdv ct) ps sp := by
  refine ⟨len, fun A outer s H args us vs Q E hg room env bnd rel want => ?_⟩
  have lens := len _ _ _ _ want
  have hK : K.In s.heap := env.mod.kin.keeps fun b o e => (env.bs b o e).1
  have noLim : s.heap.NoLimit := env.mod.nolimit.keeps fun b o e => (env.bs b o e).1
  have kinds : ∀ y ∈ ps.zip us, scope.names.lookup y.1 = some .local ∨ (scope.names.lookup y.1 = some .cell ∧ ((cellsFrom (s.heap.objs.size + 1) scope.names []).lookup y.1).isSome = true) := by
    rintro ⟨n, v⟩ hy
    rcases S.par n (List.of_mem_zip hy).1 with q | q
    · exact .inl q
    · exact .inr ⟨q, PySem.W.cellsFrom_some _ _ _ (.inl q)⟩
  refine codeAny_call_function room.depth (hK _ _ lk) rfl S.co S.gen rfl (PySem.W.codeRec_of hK hcd) (bnd _ _ _ _ (wpAny_newFunctionEnv_cells S.kind kinds fun e1 he s1 x1 => ?_))
  subst he
  refine ⟨noLim.keeps x1.toInCall.keep, codeAny_func ?_⟩
  obtain ⟨t, ht, hq⟩ := hb A outer s H vs Q E hg (room.deeper _) want
  have start : Inv (cxOf CX0 P w K mg base N qual scope f cdv A outer s H E) [] (L2.start N vs) H s1 := inv_start S room.hd env lens rel x1
  refine wpAny_mono (ht.run [] s1 _ H _ start hq) (fun fl s2 h2 => ?_) fun e s2 h2 => h2
  cases fl with
  | ret u =>
    obtain ⟨v, σ', H', J, rv, q⟩ := h2
    exact ⟨v, H', J.os, J.bare, J.base, J.hok, rv, q⟩
  | next =>
    obtain ⟨σ', H', J, q⟩ := h2
    exact ⟨V.non, H', J.os, J.bare, J.base, J.hok, rfl, q⟩
  | brk => obtain ⟨_, _, _, q⟩ := h2; exact False.elim q
  | cont => obtain ⟨_, _, _, q⟩ := h2; exact False.elim q
variable {x qual : Str} {st : Stmt} {N : List Str} {t : TS}
theorem FCG.ofT (F : Df K x qual st f fd ps) (S : FnScope N ps (defScope st)) (len : ∀ vs H Q E, sp vs H Q E → vs.length = ps.length)
    (hk : ∀ {A : Around} {cdv : Value} {s : Shared}, (A.deeper (envOfC qual (defScope st) s.heap.objs.size f cdv)).guards = some [] → Room k (A.deeper (envOfC qual (defScope st) s.heap.objs.size f cdv)) → ∀ outer H E, PSs (Xb P w K mg base N qual st f cdv A outer s H E) (defBody st) t)
    (h : ∀ {vs H Q E}, sp vs H Q E → t { nx := fun _ H' => Q .non H', rt := Q } (L2.start N vs) H) : FCG P w K mg base (k + 1) f fd ps sp := by
  refine ⟨?_, F.bi, F.fn.kp⟩
  obtain ⟨oc, od, kV, doc, pm, an, cdv, ct, osl, rfl, lk, hcd⟩ := F.fn.ex
  exact fnG_of lk hcd S len fun A outer s H vs Q E hg hr q => ⟨t, (hk hg hr outer H E).nox, h q⟩
end
section
variable {X : Cx} {k j : Nat} {f : Addr} {fd : FuncData} {ps : List Str} {sp : Sp} {x : Str} {p pos : Pos} {e : Expr} {es : List Expr} {t : TA}
theorem runG {pins : List (Addr × Obj)} {σ : L2.St} {H : Hp} {s : Shared} {Q : VK} {us : List Value} {vs : List V} (F : FnG X.prog X.w X.K X.mg X.base k f fd ps sp) (hg : X.A.guards = some []) (hr : Room k X.A) (hb : Binds X.K fd ps []) (I : Inv X pins σ H s) (r : Vals vs us) (h : sp vs H Q E0) :
    wpAny (model X.prog X.w) X.A (call (.ref f) us) (EP X pins σ Q) X.xe s := by
  have hl : (us ++ ([] : List Value)).length = ps.length := by rw [List.append_nil, ← r.length]; exact F.len _ _ _ _ h
  have hbb := hb s us I.kIn hl
  rw [List.append_nil] at hbb
  refine wpAny_call (codeAny_mono (F.run X.A X.stack s H ⟨us, []⟩ us vs Q E0 hg hr I.env0 hbb r h) fun q s' hq => ?_)
  match q, hq with
  | .error e, hq => exact pass0 pins σ H s e s' I hq
  | .ok (.ret u), hq => exact I.after hq
/-- f(e, ..), where no repr is under way -/
theorem pe_fnG (c : FCG X.prog X.w X.K X.mg X.base k f fd ps sp) (hg : X.A.guards = some []) (hr : Room j X.A) (hk : k ≤ j) (hm : X.mg x = some (.ref f)) (ha : PA X (e :: es) t) (hgl : Gl X x := by rfl) (hdb : (x == ("__debug__" : Str)) = false := by decide)
    (he : starEach (e :: es) X.env = (false, eval e X.env) :: starEach es X.env := by rfl) (hpl : (backTo pos (starEach es X.env)).any (·.1) = false := by rfl) : PE X (.Call (.Name x p) (e :: es) [] pos) (tCall sp [] E0 t) := by
  refine ⟨fun pins s σ H Q I h => wpAny_Call_Name_kw (ld_glob I hgl hm ?_ hdb)⟩
  refine PySem.W.callWith_K (h₀ := X.base) I.ok.mod.kin c.kp (thn (ha.run pos pins s σ H _ I h) fun us s1 ⟨vs, H1, I1, r, q⟩ => ⟨I1.kIn, ?_⟩) he hpl
  have q2 : sp (vs ++ []) H1 Q E0 := q
  rw [List.append_nil] at q2
  exact runG c.ok hg (hr.mono hk) c.bi I1 r q2
/-! ### repr -/
/-- repr of plain data, told by the library's own text -/
def rReprD (K : PySem.W.Frag) : List V → Hp → VK → Prop := fun xs H Q => rReprX xs H Q ∨ ∃ a d, xs = [.ref a] ∧ Dp K H (.ref a) d ∧ d.plain = true ∧ d.showable = true ∧ d.depth ≤ 40 ∧ d.shown.length ≤ sizeLine ∧ Q (.str d.shown) H
theorem call_reprD (hg : X.A.guards = some []) (hu : X.A.units + 64 < cLine) : CallR X (.builtin "repr") (rReprD X.K) := by
  intro pins s σ H xs us Q I r h
  rcases h with h | ⟨a, d, rfl, hd, hp, hs, hdp, hl, q⟩
  · exact call_reprX pins s σ H xs us Q I r h
  · obtain ⟨u, rfl, rx⟩ := vals1 r
    obtain rfl : u = Value.ref a := rx
    obtain ⟨as, rd⟩ := Dp.reads I d _ _ hd rfl
    refine repr_of_reads' rd hs (fun e => by rw [noDict d hp] at e; cases e) hg (by omega) (fun b o e => e) (fun h' u tk hk => ⟨.str _, H, I.kept hk, ⟨_, rfl⟩, q⟩) hl
end
end DL
set_option Elab.async false
set_option linter.all false
set_option maxRecDepth 100000
set_option maxHeartbeats 2000000
/-! DL, part u: the end of a law whose def wants to know that no repr is under way. -/
namespace DL
open PySem L2 PyProof.Rows
/-- the law's promise -/
def spLaw (K : PySem.W.Frag) : Sp := fun vs H Q _ => ∃ (p : Addr) (ns : List Int), vs = [.ref p] ∧ SqL K H p (ns.map V.int) ∧ ns.length ≤ 63 ∧ ∀ H', Q (.bl true) H'
section
variable {P : Program} {w : World} {K : PySem.W.Frag} {mg mb : Str → Option Value} {k : Nat} {fa a : Addr} {fd : FuncData} {s : Shared} {vs : List Value} {ns : List Int}
/-- told at a heap in which the script alone may be tracked -/
theorem law_at (hK : K.In s.heap) (hmg : s.heap.Ns mainGlobals mg) (hbt : s.heap.Ns builtinsNs mb) (hboot : ∀ x : Str, x ≠ "__name__" → mb x = bootBuiltins x) (hlim : s.heap.NoLimit) (hgen : s.gens = #[])
    (obj : s.heap.get? a = some { cls := .type "list", data := .seq vs.toArray }) (F : ∀ base : Heap, K.In base → base.Ns mainGlobals mg → FnG P w K mg base k fa fd ["script"] (spLaw K)) (hroom : Room k callerA) (hbind : ∀ (s : Shared) (u : Value), BindsTo s fd ⟨[u], []⟩ [("script", u)])
    (H : Hp) (only : ∀ b, H b = none ∨ (b = a ∧ K.lookup a = none ∧ ∃ o xs, H b = some (.frz o (.lst xs)))) (hS : SqL K H a (ns.map V.int)) (hl : ns.length ≤ 63) (hok : HOk P w H s.heap) :
    codeAny (model P w) callerA (.call (.ref fa) ⟨[.ref a], []⟩) (fun r s' => r = .ok (.ret (.bool true)) ∧ OldK s.heap s'.heap ∧ s'.os = s.os ∧ AllBare s'.gens) s := by
  have isA : ∀ b, H b ≠ none → b = a ∧ K.lookup a = none := fun b n => (only b).elim (fun e => absurd e n) fun e => ⟨e.1, e.2.1⟩
  have dictFree : ∀ {b : Addr} {o : Obj} {es : Array DictEntry} {ep : Nat}, s.heap.get? b = some o → o.data = .dict es ep → H b = none := by
    intro b o es ep e d
    rcases only b with n | ⟨rfl, _, _⟩
    · exact n
    · rw [obj] at e
      cases e
      exact (nomatch (show Data.seq vs.toArray _ = Data.dict es ep from d))
  have space : ∀ {b : Addr} {m : Str → Option Value}, s.heap.Ns b m → (hidT s.heap H).Ns b m := by
    rintro b m ⟨o, es, ep, e, d, r⟩
    exact ⟨o, es, ep, hidT_get e (dictFree e d), d, r⟩
  have hKb : K.In (hidT s.heap H) := fun b o e => hidT_get (hK b o e) (by
    rcases only b with n | ⟨rfl, n, _⟩
    · exact n
    · rw [n] at e; cases e)
  have noLim : (hidT s.heap H).NoLimit := by
    obtain ⟨mc, h1, h2⟩ := hlim
    exact ⟨mc, space h1, h2⟩
  have none_in : ∀ {b : Addr} {p : Prop}, b ∈ ([] : List Addr) → p := fun h => absurd h (by simp)
  have env : Env0 P w K mg (hidT s.heap H) callerA [] s H := ⟨rfl, ⟨hKb, space hmg, ⟨mb, space hbt, hboot⟩, noLim⟩, fun b o e => of_hidT e, Nat.le_of_eq (hidT_size _ _), trivial, fun b hb => none_in hb, hok, .of_eq hgen⟩
  have run := (F _ hKb (space hmg)).run callerA [] s H ⟨[.ref a], []⟩ [.ref a] [.ref a] (fun v _ => v = .bl true) (fun _ _ _ => False) rfl hroom env (hbind s (.ref a)) (.cons rfl .nil) ⟨a, ns, rfl, hS, hl, fun _ => rfl⟩
  refine codeAny_mono run fun r s' h => ?_
  match r, h with
  | .error e, h => exact False.elim h
  | .ok (.ret u), h =>
    obtain ⟨v, H', os, bare, un, hok', rv, q⟩ := h
    have q : v = .bl true := q
    subst q
    obtain rfl : u = Value.bool true := rv
    refine ⟨rfl, OldK.of_keep fun b o e => ?_, os, bare⟩
    rcases only b with n | ⟨_, _, ob, xs, z⟩
    · exact un.keep b o e n (fun h => none_in h) (by simp)
    · have e1 := (hok b _ z).1
      have e2 := (hok' b _ (un.frzs b ob _ z)).1
      rw [e] at e1
      cases e1
      exact e2
theorem law_callG (hK : K.In s.heap) (hmg : s.heap.Ns mainGlobals mg) (hbt : s.heap.Ns builtinsNs mb) (hboot : ∀ x : Str, x ≠ "__name__" → mb x = bootBuiltins x) (hlim : s.heap.NoLimit) (hgen : s.gens = #[])
    (obj : s.heap.get? a = some { cls := .type "list", data := .seq vs.toArray }) (F : ∀ base : Heap, K.In base → base.Ns mainGlobals mg → FnG P w K mg base k fa fd ["script"] (spLaw K)) (hroom : Room k callerA) (hbind : ∀ (s : Shared) (u : Value), BindsTo s fd ⟨[u], []⟩ [("script", u)])
    (isI : IntsAre vs ns) (hl : ns.length ≤ 63) :
    codeAny (model P w) callerA (.call (.ref fa) ⟨[.ref a], []⟩) (fun r s' => r = .ok (.ret (.bool true)) ∧ OldK s.heap s'.heap ∧ s'.os = s.os ∧ AllBare s'.gens) s := by
  have rv := vals_ints isI
  have l2 := isI.length
  have small : ns.length ≤ sizeLine := by rw [sizeLine_eq]; omega
  cases hk : K.lookup a with
  | some o =>
    have e := hK a o hk
    rw [obj] at e
    cases e
    exact law_at hK hmg hbt hboot hlim hgen obj F hroom hbind (fun _ => none) (fun b => .inl rfl) (.inr ⟨_, vs.toArray, _, hk, rfl, rfl, rfl, by rw [List.size_toArray, l2]; exact small, by simpa using rv⟩) hl fun b u z => (nomatch (show (none : Option HO) = some u from z))
  | none =>
    refine law_at hK hmg hbt hboot hlim hgen obj F hroom hbind (upd (fun _ => none) a (.frz { cls := .type "list", data := .seq vs.toArray } (.lst (ns.map V.int)))) (fun b => ?_) (.inl (.inr ⟨_, upd_same⟩)) hl fun b u z => ?_
    · by_cases q : b = a
      · subst q; exact .inr ⟨rfl, hk, _, _, upd_same⟩
      · exact .inl (upd_ne q)
    · by_cases q : b = a
      · subst q
        rw [upd_same] at z
        cases z
        exact ⟨obj, by rw [List.length_map]; exact small, vs, _, rv, obj⟩
      · rw [upd_ne q] at z; cases z
end
theorem walkG {l : PySem.W.OpenLaw} {q : Program} {loose : List Str} {XP : (Str → Option Value) → Heap → Prop} {YP : World → Heap → Prop} {d : DefRec} {K : Params → PySem.W.Frag} {k : Nat} (hn : l.most = some 63) (hdf : d.params.defaults = []) (hr : Room k callerA)
    (hY : ∀ (w : World) (h : Heap), YP w h → (K w.params).In h)
    (F : ∀ (w : World) (mg : Str → Option Value) (fa : Addr) (h : Heap), (K w.params).In h → h.Ns mainGlobals mg → mg d.name = some (.ref fa) →
      ∃ fd : FuncData, (∀ (s : Shared) (u : Value), BindsTo s fd ⟨[u], []⟩ [("script", u)]) ∧ ∀ base : Heap, (K w.params).In base → base.Ns mainGlobals mg → FnG l.prog w (K w.params) mg base k fa fd ["script"] (spLaw (K w.params))) :
    PySem.W.WalkO q loose XP YP l.row.toRowW d [] (fun f vs => PySem.call f vs) := by
  refine Att.attach_call hn hdf fun w s₀ s₁ mg mb fa o pm cd doc a vs ns G Y ho hd hcd hmg hobj hints hlen hg => ?_
  obtain ⟨fd, hb, hF⟩ := F w mg fa _ (hY w _ Y) G.T.g hmg
  exact law_callG (hY w _ Y) G.T.g G.T.b G.T.builtins G.T.nolimit hg hobj hF hr hb hints hlen
end DL
set_option Elab.async false
set_option linter.all false
set_option maxRecDepth 100000
set_option maxHeartbeats 2000000
/-! DL, part w: how long a repr is; repr of data. -/
namespace DL
open PySem L2
mutual
/-- a bound of the repr's length -/
def szP : PyData → Nat
  | .none => 4 | .bool _ => 5 | .int i => (toString i : Str).length | .str x => 10 * x.length + 2
  | .list xs => 2 + szL xs | .tuple xs => 4 + szL xs | .dict _ => 0
def szL : List PyData → Nat
  | [] => 0
  | x :: r => szP x + 2 + szL r
end
mutual
/-- signs in sight, numbers not too long -/
def okP : PyData → Bool
  | .none => true | .bool _ => true | .int i => decide (i.natAbs.log2 < 1920) | .str x => x.cps.toList.all fun c => decide (c < 16 ^ 8)
  | .list xs => okL xs | .tuple xs => okL xs | .dict _ => false
def okL : List PyData → Bool
  | [] => true
  | x :: r => okP x && okL r
end
theorem textFrom_le : ∀ (ts : List Str) (k : Nat) (acc : Str), (textFrom k acc ts).length ≤ acc.length + (ts.map fun t => t.length + 2).sum
  | [], k, acc => by show acc.length ≤ acc.length + 0; omega
  | t :: r, k, acc => by
    have h := textFrom_le r (k + 1) (acc ++ (if k > 0 then ", " else "" : String) ++ t)
    have e : (acc ++ (if k > 0 then ", " else "" : String) ++ t : Str).length ≤ acc.length + 2 + t.length := by
      rw [Str.length_append, Str.length_append]
      split
      · show acc.length + 2 + t.length ≤ _; omega
      · show acc.length + 0 + t.length ≤ _; omega
    rw [List.map_cons, List.sum_cons]
    show (textFrom (k + 1) _ r).length ≤ _
    omega
theorem join_le : ∀ ts : List Str, (Str.join ", " ts).length ≤ (ts.map fun t => t.length + 2).sum
  | [] => Nat.zero_le _
  | [x] => by show x.length ≤ x.length + 2 + 0; omega
  | x :: y :: r => by
    have h := join_le (y :: r)
    show (x ++ ", " ++ Str.join ", " (y :: r) : Str).length ≤ _
    rw [Str.length_append, Str.length_append, List.map_cons, List.sum_cons]
    show x.length + 2 + _ ≤ _
    omega
mutual
theorem shown_le : ∀ d : PyData, okP d = true → d.shown.length ≤ szP d
  | .none, _ => by show ("None" : Str).length ≤ 4; decide +kernel
  | .bool b, _ => by cases b <;> (simp only [PyData.shown]; show Str.length _ ≤ 5; decide +kernel)
  | .int i, _ => by simp only [PyData.shown]; exact Nat.le_refl _
  | .str x, h => by
    simp only [PyData.shown]
    exact StrLaws.reprText_len x fun c hc => of_decide_eq_true (List.all_eq_true.mp (show (x.cps.toList.all fun c => decide (c < 16 ^ 8)) = true from h) c hc)
  | .list xs, h => by
    have h1 := shownL_le xs h
    simp only [PyData.shown]
    unfold listText
    rw [Str.length_append]
    have h2 := textFrom_le (PyData.shownAll xs) 0 "["
    show _ + 1 ≤ 2 + szL xs
    have e : ("[" : Str).length = 1 := by decide +kernel
    rw [e] at h2
    omega
  | .tuple xs, h => by
    have h1 := shownL_le xs h
    simp only [PyData.shown]
    unfold tupleText
    rw [Str.length_append, Str.length_append]
    have h2 := join_le (PyData.shownAll xs)
    have e : ("(" : Str).length = 1 := by decide +kernel
    rw [e]
    show 1 + _ + Str.length _ ≤ 4 + szL xs
    split
    · have e2 : ((",)" : String) : Str).length = 2 := by decide +kernel
      rw [e2]; omega
    · have e2 : ((")" : String) : Str).length = 1 := by decide +kernel
      rw [e2]; omega
  | .dict _, h => by cases h
theorem shownL_le : ∀ xs : List PyData, okL xs = true → ((PyData.shownAll xs).map fun t => t.length + 2).sum ≤ szL xs
  | [], _ => Nat.le_refl _
  | x :: r, h => by
    have h' := Bool.and_eq_true_iff.mp h
    have h1 := shown_le x h'.1
    have h2 := shownL_le r h'.2
    show ((x.shown :: PyData.shownAll r).map fun t => t.length + 2).sum ≤ szP x + 2 + szL r
    rw [List.map_cons, List.sum_cons]; omega
end
mutual
theorem ok_show : ∀ d : PyData, okP d = true → d.showable = true
  | .none, _ => rfl | .bool _, _ => rfl | .str _, _ => rfl
  | .int i, h => h
  | .list xs, h => okL_show xs h
  | .tuple xs, h => okL_show xs h
  | .dict _, h => by cases h
theorem okL_show : ∀ xs : List PyData, okL xs = true → PyData.showableAll xs = true
  | [], _ => rfl
  | x :: r, h => by
    have h' := Bool.and_eq_true_iff.mp h
    exact Bool.and_eq_true_iff.mpr ⟨ok_show x h'.1, okL_show r h'.2⟩
end
mutual
theorem ok_plain : ∀ d : PyData, okP d = true → d.plain = true
  | .none, _ => rfl | .bool _, _ => rfl | .str _, _ => rfl | .int _, _ => rfl
  | .list xs, h => okL_plain xs h
  | .tuple xs, h => okL_plain xs h
  | .dict _, h => by cases h
theorem okL_plain : ∀ xs : List PyData, okL xs = true → PyData.plainAll xs = true
  | [], _ => rfl
  | x :: r, h => by
    have h' := Bool.and_eq_true_iff.mp h
    exact Bool.and_eq_true_iff.mpr ⟨ok_plain x h'.1, okL_plain r h'.2⟩
end
def isTL' : D → Bool
  | .lst _ => true | .tup _ => true | _ => false
/-- lists and tuples that repr tells -/
structure RepOk (d : D) : Prop where
  ok : okP d.py = true
  dp : d.py.depth ≤ 40
  sz : szP d.py ≤ 10000000
  ref : isTL' d = true
section
variable [Wld] {K : PySem.W.Frag} {m n : Nat} {Γ : Gm} {te ta tb : TE} {d x : D} {P : D → Prop}
theorem e_reprD (h : DR K te Γ n (· = x)) (ok : RepOk x) : DF K (tCB (rReprD K) (tCons te tNil)) Γ n (· = .str x.py.shown) := by
  intro m B H σ le sg Q k
  refine h m B H σ le sg _ fun v B1 H1 y g1 le1 r1 p1 => ?_
  subst p1
  have hp := ok_plain _ ok.ok
  have hl : y.py.shown.length ≤ sizeLine := by
    have h1 := shown_le _ ok.ok
    have h2 := ok.sz
    rw [sizeLine_eq]; omega
  have hv : ∃ a, v = .ref a := by
    have hr := ok.ref
    cases y <;> try (cases hr; done)
    · obtain ⟨a, vs, e, _⟩ := rv_lst r1 le1; exact ⟨a, e⟩
    · obtain ⟨a, vs, e, _⟩ := rv_tup r1 le1; exact ⟨a, e⟩
  obtain ⟨a, rfl⟩ := hv
  exact .inr ⟨a, _, rfl, r1.dp le1 hp, hp, ok_show _ ok.ok, ok.dp, hl, k _ B1 H1 _ g1 le1 (.str _) rfl⟩
theorem e_reprB {b : Bool} (h : DR K te Γ n (· = .bl b)) : DF K (tCB (rReprD K) (tCons te tNil)) Γ n (· = repF b) := by
  intro m B H σ le sg Q k
  refine h m B H σ le sg _ fun v B1 H1 x g1 le1 r1 p1 => ?_
  subst p1
  have e := rv_scal r1 rfl
  subst e
  exact .inl ⟨b, rfl, k _ B1 H1 _ g1 le1 (.str _) rfl⟩
end
end DL
set_option Elab.async false
set_option linter.all false
set_option maxRecDepth 100000
set_option maxHeartbeats 2000000
/-! Ka: names, networks, nodes: what the defs promise, on the data side. -/
namespace DL
open PySem L2
theorem lenF_str {s : Str} (h : s.length ≤ 1000) : lenF (.str s) = some (.int s.length) := by
  show (if s.length ≤ sizeLine then some (D.int s.length) else none) = _
  rw [if_pos (by rw [sizeLine_eq]; omega)]
theorem filter_none {α : Type} {p : α → Bool} {l : List α} (h : ∀ x ∈ l, p x = false) : l.filter p = [] := List.filter_eq_nil_iff.mpr fun x hx => by rw [h x hx]; exact Bool.false_ne_true
section
variable [Wld] {K : PySem.W.Frag} {a : Ad} {m : Nat} {Γ : Gm} {te : TE} {d : D}
/-! ### is_name -/
def N_is_name : List Str := ["value", "sign"]
def t_is_name [Wld] (K : PySem.W.Frag) (a : Ad) : TS := (tSeq (tIfS (tOr (tNot (tTru K (tCB (rIsiX K) (tCons (tVar 0) (tCons (tC (.ty "str")) tNil))))) (tNot (tTest (tChain (rLe) (rLe) (tC (.int 1)) (tCB (rLenX K) (tCons (tVar 0) tNil)) (tC (.int 6)))))) (tRet (tC (.bl false))) tNext) (tRet (tOp (rEqP K) (tLc (iStr (tVar 0)) (gName 1) (tTest (tOp (rNinX K) (tVar 1) (tC (.str "abcdefghijklmnopqrstuvwxyz")))) (tVar 1) [1]) (tLst tNil))))
def letters : List Nat := ("abcdefghijklmnopqrstuvwxyz" : Str).cps.toList
structure NameOk (s : Str) : Prop where
  ge : 1 ≤ s.length
  le : s.length ≤ 6
  all : ∀ c ∈ s.cps.toList, c ∈ letters
def C_is_name : Ct := fun ds P => ∃ s, ds = [.str s] ∧ NameOk s ∧ P = (· = .bl true)
abbrev sp_is_name (K : PySem.W.Frag) (a : Ad) : Sp := spF K 0 C_is_name
theorem bd_is_name : ∀ {vs H Q E}, sp_is_name K a vs H Q E → t_is_name K a { nx := fun _ H' => Q .non H', rt := Q } (L2.start N_is_name vs) H := body_F fun ds P m c => by
  obtain ⟨s, rfl, ok, rfl⟩ := c
  show DS K _ [.val (.str s), .no] m _
  unfold t_is_name
  have hl := lenF_str (s := s) (by have := ok.le; omega)
  refine s_seq (es_if (b := false) ?_ (fun h => nomatch h) fun h => s_next ?_)
  · refine (e_or (e_not (e_truB (isi_S (f_var rfl).r (.str s)))) fun _ => e_not (e_test (e_chain ok_le ok_le c_int.r (e_cb ok_len (f_var rfl).r hl).r c_int.r rfl rfl))).cast ?_
    show (!true || !(decide ((1 : Int) ≤ (s.length : Int)) && decide ((s.length : Int) ≤ 6))) = false
    rw [decide_eq_true (show (1 : Int) ≤ (s.length : Int) by have := ok.ge; omega), decide_eq_true (show (s.length : Int) ≤ 6 by have := ok.le; omega)]
    rfl
  · refine es_ret (e_op ok_eq ((ew_lc (p := fun _ => false) (f := id) (i_str (f_var rfl)) ?_ (by simp) (fun i d hd => ⟨_, g_name, e_test (e_op ok_nin (f_var rfl).r c_str.r ?_), fun h => nomatch h⟩)).cast (d' := .lst []) ?_).f.r (ew_lst a_nil (by decide)).f.r (eqF_nil (xs := []) (by simp) ▸ rfl)) ⟨Nat.le_refl _, rfl⟩
    · unfold sgD; rw [List.length_map]; have := ok.le; show s.cps.toList.length ≤ _; rw [Array.length_toList]; have : s.length = s.cps.size := rfl; omega
    · unfold sgD at hd
      rw [List.getElem?_map] at hd
      cases q : s.cps.toList[i]? with
      | none => rw [q] at hd; cases hd
      | some c =>
        rw [q] at hd; cases hd
        have hc := ok.all c (List.mem_of_getElem? q)
        show blF (notO (some (decide (c ∈ letters)))) = some (.bl false)
        rw [decide_eq_true hc]; rfl
    · rw [filter_none fun _ _ => rfl]; rfl
/-! ### Network -/
def strsT (l : List Str) : D := .tup (l.map .str)
def strsL (l : List Str) : D := .lst (l.map .str)
def netF (ns es : List Str) : List (Str × D) := putFD "own_exits" (strsT es) (putFD "own_nodes" (strsT ns) [])
def netD (a : Ad) (ns es : List Str) : D := .ins a.Network (netF ns es)
theorem lookup_putFD {f g : Str} {d : D} : ∀ {fs : List (Str × D)}, (putFD f d fs).lookup g = if g = f then some d else fs.lookup g
  | [] => by
    show (match g == f with | true => some d | false => none) = _
    by_cases h : g = f
    · rw [if_pos h, h]; simp
    · rw [if_neg h, show (g == f) = false by simpa using h]; rfl
  | (k, x) :: r => by
    unfold putFD
    by_cases hk : k = f
    · rw [if_pos hk, List.lookup_cons, List.lookup_cons]
      by_cases h : g = f
      · rw [if_pos h, h, hk]; simp
      · rw [if_neg h, hk, show (g == f) = false by simpa using h]
    · rw [if_neg hk, List.lookup_cons, List.lookup_cons, lookup_putFD]
      by_cases h : g = k
      · rw [h]; simp [hk]
      · rw [show (g == k) = false by simpa using h]
theorem net_nodes (ns es : List Str) : (netF ns es).lookup ("own_nodes" : Str) = some (strsT ns) := by
  unfold netF; rw [lookup_putFD, if_neg (by decide +kernel), lookup_putFD, if_pos rfl]
theorem net_exits (ns es : List Str) : (netF ns es).lookup ("own_exits" : Str) = some (strsT es) := by
  unfold netF; rw [lookup_putFD, if_pos rfl]
theorem len_putFD (f : Str) (d : D) : ∀ fs : List (Str × D), (putFD f d fs).length ≤ fs.length + 1
  | [] => Nat.le_refl _
  | (k, x) :: r => by
    unfold putFD
    split
    · exact Nat.le_succ _
    · exact Nat.succ_le_succ (len_putFD f d r)
/-- the names of a network -/
structure NetOk (ns es : List Str) : Prop where
  ok : ∀ s ∈ ns ++ es, NameOk s
  nd : (ns ++ es).Nodup
  n1 : 1 ≤ ns.length
  n8 : ns.length ≤ 8
  e1 : 1 ≤ es.length
  e3 : es.length ≤ 3
def N_Network___init__ : List Str := ["self", "nodes", "exits", "seen", "name"]
def t_Network___init__ [Wld] (K : PySem.W.Frag) (a : Ad) : TS := (tSeq (tIfS (tOr (tNot (tTru K (tCB (rIsiX K) (tCons (tVar 1) (tCons (tTup (tCons (tC (.ty "list")) (tCons (tC (.ty "tuple")) tNil))) tNil))))) (tNot (tTru K (tCB (rIsiX K) (tCons (tVar 2) (tCons (tTup (tCons (tC (.ty "list")) (tCons (tC (.ty "tuple")) tNil))) tNil)))))) tNever tNext) (tSeq (tAsg (tLst tNil) (gName 3)) (tSeq (tFor (iSeq K (tOp (rAddX K) (tCB (rListX K) (tCons (tVar 1) tNil)) (tCB (rListX K) (tCons (tVar 2) tNil)))) (gName 4) (tSeq (tIfS (tOr (tNot (tTru K (tCall (sp_is_name K a) [] E0 (tCons (tVar 4) tNil)))) (tTest (tOp (rInX K) (tVar 4) (tVar 3)))) tNever tNext) (tDrop (tBM K "list" rAppend (tVar 3) (tCons (tVar 4) tNil))))) (tSeq (tIfS (tOr (tNot (tTest (tChain (rLe) (rLe) (tC (.int 1)) (tCB (rLenX K) (tCons (tVar 1) tNil)) (tC (.int 8))))) (tNot (tTest (tChain (rLe) (rLe) (tC (.int 1)) (tCB (rLenX K) (tCons (tVar 2) tNil)) (tC (.int 3)))))) tNever tNext) (tSeq (sFld K (tVar 0) (tCB (rTupX K) (tCons (tVar 1) tNil)) "own_nodes") (sFld K (tVar 0) (tCB (rTupX K) (tCons (tVar 2) tNil)) "own_exits"))))))
def C_Network_init (a : Ad) : Ct := fun ds P => ∃ ns es, ds = [strsL ns, strsL es] ∧ NetOk ns es ∧ P = (· = netD a ns es)
abbrev sp_Network___init__ (K : PySem.W.Frag) (a : Ad) : Sp := spI K a.Network 0 (C_Network_init a)
theorem bd_Network___init__ (T : Tc K a) : ∀ {vs H Q E}, sp_Network___init__ K a vs H Q E → t_Network___init__ K a { nx := fun _ H' => Q .non H', rt := Q } (L2.start N_Network___init__ vs) H := body_I fun o ds P m c => by
  obtain ⟨ns, es, rfl, ok, rfl⟩ := c
  show DS K _ [.ow (.ins a.Network []) (· = o), .val (strsL ns), .val (strsL es), .no, .no] m _
  unfold t_Network___init__
  have sl : (ns ++ es).length ≤ 11 := by rw [List.length_append]; have := ok.n8; have := ok.e3; omega
  refine s_seq (es_if (b := false) ((e_or (e_not (e_truB (isi_LT (f_var rfl).r (.lst _)))) fun _ => e_not (e_truB (isi_LT (f_var rfl).r (.lst _))))) (fun h => nomatch h) fun _ => s_next ?_)
  refine s_seq (es_setW (ew_lst a_nil) ?_)
  refine s_seq (s_for (n := 0) (PL := (· = (ns ++ es).map .str)) (fun ds i Γ m' => m' = m ∧ ∃ s, Γ = [.ow (.ins a.Network []) (· = o), .val (strsL ns), .val (strsL es), .ow (.lst (ds.take i)), s]) (i_l (ew_op ok_addL (ew_cb ok_list (f_var rfl).r rfl).f.r (ew_cb ok_list (f_var rfl).r rfl).f.r ?_).f) (fun ds e => ⟨rfl, .no, rfl⟩) ?_ ?_)
  · show (if (ns.map D.str).length + (es.map D.str).length ≤ sizeLine then some (D.lst (ns.map .str ++ es.map .str)) else none) = _
    rw [if_pos (by rw [List.length_map, List.length_map, ← List.length_append, sizeLine_eq]; omega), List.map_append]
  · rintro ds i d Γ' m' e hd ⟨rfl, s, rfl⟩
    subst e
    rw [List.getElem?_map] at hd
    cases q : (ns ++ es)[i]? with
    | none => rw [q] at hd; cases hd
    | some nm =>
      rw [q] at hd; cases hd
      have hil := (List.getElem?_eq_some_iff.mp q).1
      refine ⟨_, _, g_name, s_seq (es_if (b := false) ((e_or (e_not (e_truB (e_call (ea_cons (f_var rfl) a_nil) ⟨nm, rfl, ok.ok nm (List.mem_of_getElem? q), rfl⟩))) fun _ => e_test (e_opB ok_in (f_var rfl).r (r_var rfl) (by rw [← List.map_take, (inF_strs _ _).1]; rfl))).cast ?_) (fun h => nomatch h) fun _ => s_next ?_)⟩
      · show (false || (inF (.str nm) (.lst (((ns ++ es).map D.str).take i))).getD false) = false
        rw [← List.map_take, (inF_strs _ _).1]
        show decide (nm ∈ (ns ++ es).take i) = false
        rw [decide_eq_false]
        intro hm
        obtain ⟨j, hj, ej⟩ := List.getElem_of_mem hm
        have hj' : j < i := by rw [List.length_take] at hj; omega
        have e1 : (ns ++ es)[j]? = some nm := by
          rw [← ej, List.getElem_take]; exact List.getElem?_eq_getElem _
        have := nd_ix ok.nd e1 q
        omega
      · refine es_app rfl ?_ (f_var rfl) ⟨rfl, .val (.str nm), ?_⟩
        · rw [List.length_take, List.length_map]; omega
        · show [_, _, _, Sl.ow (.lst (((ns ++ es).map D.str).take i ++ [.str nm])), _] = _
          rw [← take_succ (by rw [List.getElem?_map, q]; rfl)]
  · rintro ds Γ' m' e ⟨rfl, s, rfl⟩
    subst e
    have l1 : lenF (strsL ns) = some (.int ns.length) := by show some (D.int ((ns.map D.str).length : Nat)) = _; rw [List.length_map]
    have l2 : lenF (strsL es) = some (.int es.length) := by show some (D.int ((es.map D.str).length : Nat)) = _; rw [List.length_map]
    refine s_seq (es_if (b := false) ((e_or (e_not (e_test (e_chain ok_le ok_le c_int.r (e_cb ok_len (f_var rfl).r l1).r c_int.r rfl rfl))) fun _ => e_not (e_test (e_chain ok_le ok_le c_int.r (e_cb ok_len (f_var rfl).r l2).r c_int.r rfl rfl))).cast ?_) (fun h => nomatch h) fun _ => s_next ?_)
    · rw [decide_eq_true (show (1 : Int) ≤ (ns.length : Int) by have := ok.n1; omega), decide_eq_true (show (ns.length : Int) ≤ 8 by have := ok.n8; omega), decide_eq_true (show (1 : Int) ≤ (es.length : Int) by have := ok.e1; omega), decide_eq_true (show (es.length : Int) ≤ 3 by have := ok.e3; omega)]
      rfl
    · refine s_seq (es_fld T.c_Network T.n_own_nodes rfl (by decide) (e_cb ok_tup (f_var rfl).r rfl) ?_)
      refine es_fld T.c_Network T.n_own_exits rfl ?_ (e_cb ok_tup (f_var rfl).r rfl) ⟨Nat.le_refl _, _, rfl, rfl⟩
      exact Nat.lt_of_le_of_lt (len_putFD _ _ _) (by decide)
def N_Network_nodes : List Str := ["self"]
def t_Network_nodes [Wld] (K : PySem.W.Frag) (a : Ad) : TS := (tRet (tFld K (tVar 0) "own_nodes"))
def N_Network_exits : List Str := ["self"]
def t_Network_exits [Wld] (K : PySem.W.Frag) (a : Ad) : TS := (tRet (tFld K (tVar 0) "own_exits"))
def C_Network_nodes (a : Ad) : Ct := fun ds P => ∃ ns es, ds = [netD a ns es] ∧ P = (· = strsT ns)
def C_Network_exits (a : Ad) : Ct := fun ds P => ∃ ns es, ds = [netD a ns es] ∧ P = (· = strsT es)
abbrev sp_Network_nodes (K : PySem.W.Frag) (a : Ad) : Sp := spF K 0 (C_Network_nodes a)
abbrev sp_Network_exits (K : PySem.W.Frag) (a : Ad) : Sp := spF K 0 (C_Network_exits a)
theorem bd_Network_nodes (T : Tc K a) : ∀ {vs H Q E}, sp_Network_nodes K a vs H Q E → t_Network_nodes K a { nx := fun _ H' => Q .non H', rt := Q } (L2.start N_Network_nodes vs) H := body_F fun ds P m c => by
  obtain ⟨ns, es, rfl, rfl⟩ := c
  exact es_ret (e_fld T.c_Network T.n_own_nodes (f_var rfl).r (net_nodes ns es)) ⟨Nat.le_refl _, rfl⟩
theorem bd_Network_exits (T : Tc K a) : ∀ {vs H Q E}, sp_Network_exits K a vs H Q E → t_Network_exits K a { nx := fun _ H' => Q .non H', rt := Q } (L2.start N_Network_exits vs) H := body_F fun ds P m c => by
  obtain ⟨ns, es, rfl, rfl⟩ := c
  exact es_ret (e_fld T.c_Network T.n_own_exits (f_var rfl).r (net_exits ns es)) ⟨Nat.le_refl _, rfl⟩
/-! ### nodes, exits, hops -/
def isIn (l : List Str) : D → Bool
  | .str s => decide (s ∈ l)
  | _ => false
def isHop (ns es : List Str) : D → Bool
  | .non => true
  | .str s => decide (s ∈ ns) || decide (s ∈ es)
  | _ => false
def N_is_node : List Str := ["network", "value"]
def t_is_node [Wld] (K : PySem.W.Frag) (a : Ad) : TS := (tRet (tAndV (tCB (rIsiX K) (tCons (tVar 1) (tCons (tC (.ty "str")) tNil))) (tOp (rInX K) (tVar 1) (tProp a.Network (sp_Network_nodes K a) [] E0 (tVar 0)))))
def N_is_exit : List Str := ["network", "value"]
def t_is_exit [Wld] (K : PySem.W.Frag) (a : Ad) : TS := (tRet (tAndV (tCB (rIsiX K) (tCons (tVar 1) (tCons (tC (.ty "str")) tNil))) (tOp (rInX K) (tVar 1) (tProp a.Network (sp_Network_exits K a) [] E0 (tVar 0)))))
def C_is_node (a : Ad) : Ct := fun ds P => ∃ ns es x, ds = [netD a ns es, x] ∧ Pl x ∧ P = (· = .bl (isIn ns x))
def C_is_exit (a : Ad) : Ct := fun ds P => ∃ ns es x, ds = [netD a ns es, x] ∧ Pl x ∧ P = (· = .bl (isIn es x))
def C_is_hop (a : Ad) : Ct := fun ds P => ∃ ns es x, ds = [netD a ns es, x] ∧ Pl x ∧ P = (· = .bl (isHop ns es x))
abbrev sp_is_node (K : PySem.W.Frag) (a : Ad) : Sp := spF K 0 (C_is_node a)
abbrev sp_is_exit (K : PySem.W.Frag) (a : Ad) : Sp := spF K 0 (C_is_exit a)
abbrev sp_is_hop (K : PySem.W.Frag) (a : Ad) : Sp := spF K 0 (C_is_hop a)
def N_is_hop : List Str := ["network", "value"]
def t_is_hop [Wld] (K : PySem.W.Frag) (a : Ad) : TS := (tRet (tOrV (tOp (L2.rIsN) (tVar 1) (tC .non)) (tOrV (tCall (sp_is_node K a) [] E0 (tCons (tVar 0) (tCons (tVar 1) tNil))) (tCall (sp_is_exit K a) [] E0 (tCons (tVar 0) (tCons (tVar 1) tNil))))))
theorem bd_is_node (T : Tc K a) : ∀ {vs H Q E}, sp_is_node K a vs H Q E → t_is_node K a { nx := fun _ H' => Q .non H', rt := Q } (L2.start N_is_node vs) H := body_F fun ds P m c => by
  obtain ⟨ns, es, x, rfl, pl, rfl⟩ := c
  cases x with
  | str s =>
    refine es_ret ((e_andV (isi_S (f_var rfl).r pl) fun _ => e_opB ok_in (f_var rfl).r (e_prop (f_var rfl) ⟨ns, es, rfl, rfl⟩).r ?_).cast ?_) ⟨Nat.le_refl _, rfl⟩
    · rw [strsT, (inF_strs _ _).2]; rfl
    · rw [strsT, (inF_strs _ _).2]; rfl
  | _ => exact es_ret ((e_andV (c := false) (isi_S (f_var rfl).r pl) fun h => nomatch h).cast rfl) ⟨Nat.le_refl _, rfl⟩
theorem bd_is_exit (T : Tc K a) : ∀ {vs H Q E}, sp_is_exit K a vs H Q E → t_is_exit K a { nx := fun _ H' => Q .non H', rt := Q } (L2.start N_is_exit vs) H := body_F fun ds P m c => by
  obtain ⟨ns, es, x, rfl, pl, rfl⟩ := c
  cases x with
  | str s =>
    refine es_ret ((e_andV (isi_S (f_var rfl).r pl) fun _ => e_opB ok_in (f_var rfl).r (e_prop (f_var rfl) ⟨ns, es, rfl, rfl⟩).r ?_).cast ?_) ⟨Nat.le_refl _, rfl⟩
    · rw [strsT, (inF_strs _ _).2]; rfl
    · rw [strsT, (inF_strs _ _).2]; rfl
  | _ => exact es_ret ((e_andV (c := false) (isi_S (f_var rfl).r pl) fun h => nomatch h).cast rfl) ⟨Nat.le_refl _, rfl⟩
theorem bd_is_hop (T : Tc K a) : ∀ {vs H Q E}, sp_is_hop K a vs H Q E → t_is_hop K a { nx := fun _ H' => Q .non H', rt := Q } (L2.start N_is_hop vs) H := body_F fun ds P m c => by
  obtain ⟨ns, es, x, rfl, pl, rfl⟩ := c
  refine es_ret ((e_orV (e_opB ok_isN (f_var rfl).r c_non.r rfl) fun _ => e_orV (e_call (ea_cons (f_var rfl) (ea_cons (f_var rfl) a_nil)) ⟨ns, es, x, rfl, pl, rfl⟩) fun _ => e_call (ea_cons (f_var rfl) (ea_cons (f_var rfl) a_nil)) ⟨ns, es, x, rfl, pl, rfl⟩).cast ?_) ⟨Nat.le_refl _, rfl⟩
  cases x <;> rfl
end
end DL
set_option Elab.async false
set_option linter.all false
set_option maxRecDepth 100000
set_option maxHeartbeats 2000000
/-! Kb: tables, updates. -/
namespace DL
open PySem L2
section
variable [Wld] {K : PySem.W.Frag} {a : Ad} {m n : Nat} {Γ : Gm} {te ta tb : TE} {d x y : D}
theorem e_neO {A : Addr} {fs gs : List (Str × D)} {C : Ct} {r : Bool} (ha : DF K ta Γ 0 (· = .ins A fs)) (hb : DF K tb Γ 0 (· = .ins A gs)) (hc : C [.ins A fs, .ins A gs] (· = .bl r)) : DF K (tOp (rNeO A (spF K n C)) ta tb) Γ n (· = .bl (!r)) := by
  intro m B H σ le sg Q k
  refine ha (m + n) B H σ le sg _ fun v B1 H1 x g1 le1 r1 p1 => hb (m + n) B1 H1 σ le1 (sg.go g1) _ fun w B2 H2 y g2 le2 r2 p2 => ?_
  subst p1; subst p2
  obtain ⟨p, dx, vs, rfl, e1, _⟩ := is_ins (r1.mono g2.b) le2
  obtain ⟨q, dy, ws, rfl, e2, _⟩ := is_ins r2 le2
  refine ⟨p, q, dx, dy, vs, ws, rfl, rfl, e1, e2, m, B2, [_, _], _, le2, .cons (r1.mono g2.b) (.one r2), hc, fun v B3 H3 d g3 le3 hi hd => ?_⟩
  subst hd
  cases hi
  exact ⟨r, rfl, k _ B3 H3 _ ((g1.trans g2).trans g3) le3 (.bl _) rfl⟩
/-! ### == of networks -/
def N_Network___eq__ : List Str := ["self", "other"]
def t_Network___eq__ [Wld] (K : PySem.W.Frag) (a : Ad) : TS := (tSeq (tIfS (tNot (tTru K (tCB (rIsiX K) (tCons (tVar 1) (tCons (tC (.ref a.Network)) tNil))))) (tRet (tC (.bl false))) tNext) (tRet (tAndV (tOp (rEqP K) (tFld K (tVar 0) "own_nodes") (tFld K (tVar 1) "own_nodes")) (tOp (rEqP K) (tFld K (tVar 0) "own_exits") (tFld K (tVar 1) "own_exits")))))
def C_Network_eq (a : Ad) : Ct := fun ds P => ∃ ns es ns' es', ds = [netD a ns es, netD a ns' es'] ∧ P = (· = .bl (decide (ns = ns') && decide (es = es')))
abbrev sp_Network___eq__ (K : PySem.W.Frag) (a : Ad) : Sp := spF K 0 (C_Network_eq a)
theorem eqF_strsT (l r : List Str) : eqF (strsT l) (strsT r) = some (decide (l = r)) := eqF_tup (k := 0) (fun _ => rfl) (fun _ => Nat.le_refl _) (by omega) eqv_str l r
theorem isi_own {C : Addr} {fs : List (Str × D)} (i : ClsI K C) (hk : PySem.W.kitOne K (.ref C) (.ref C) = some true) (h : DR K te Γ n (· = .ins C fs)) : DF K (tCB (rIsiX K) (tCons te (tCons (tC (.ref C)) tNil))) Γ n (· = .bl true) :=
  f_isiC h fun x e => ⟨_, true, e ▸ .ins fs i, hk, rfl⟩
theorem bd_Network___eq__ (T : Tc K a) : ∀ {vs H Q E}, sp_Network___eq__ K a vs H Q E → t_Network___eq__ K a { nx := fun _ H' => Q .non H', rt := Q } (L2.start N_Network___eq__ vs) H := body_F fun ds P m c => by
  obtain ⟨ns, es, ns', es', rfl, rfl⟩ := c
  refine s_seq (es_if (b := false) (e_not (e_truB (isi_own T.i_Network T.k_Network (f_var rfl).r))) (fun h => nomatch h) fun _ => s_next ?_)
  refine es_ret (e_andV (e_op ok_eq (e_fld T.c_Network T.n_own_nodes (f_var rfl).r (net_nodes ns es)).r (e_fld T.c_Network T.n_own_nodes (f_var rfl).r (net_nodes ns' es')).r ?_) fun _ => e_op ok_eq (e_fld T.c_Network T.n_own_exits (f_var rfl).r (net_exits ns es)).r (e_fld T.c_Network T.n_own_exits (f_var rfl).r (net_exits ns' es')).r ?_) ⟨Nat.le_refl _, rfl⟩
  · rw [eqF_strsT]; rfl
  · rw [eqF_strsT]; rfl
/-! ### Table -/
theorem ix_dK {kvs : List (Key × D)} {s : Str} {d : D} (h : valD kvs (.inr s) = some d) : ixF (.dK kvs) (.str s) = some d := h
def hopsK (ns : List Str) (f : Str → Option Str) : List (Key × D) := ns.map fun s => (.inr s, hopD (f s))
def tabF (a : Ad) (ns es : List Str) (f : Str → Option Str) : List (Str × D) := putFD "hops" (.dK (hopsK ns f)) (putFD "own_network" (netD a ns es) [])
def tabD (a : Ad) (ns es : List Str) (f : Str → Option Str) : D := .ins a.Table (tabF a ns es f)
theorem tab_net (ns es : List Str) (f : Str → Option Str) : (tabF a ns es f).lookup ("own_network" : Str) = some (netD a ns es) := by
  unfold tabF; rw [lookup_putFD, if_neg (by decide +kernel), lookup_putFD, if_pos rfl]
theorem tab_hops (ns es : List Str) (f : Str → Option Str) : (tabF a ns es f).lookup ("hops" : Str) = some (.dK (hopsK ns f)) := by
  unfold tabF; rw [lookup_putFD, if_pos rfl]
theorem valD_map {α : Type} {kf : α → Key} {f : α → D} : ∀ {l : List α} {x : α}, (∀ y ∈ l, kf y = kf x → f y = f x) → x ∈ l → valD (l.map fun y => (kf y, f y)) (kf x) = some (f x)
  | y :: l, x, h, hx => by
    rw [List.map_cons, valD_cons]
    by_cases e : kf y = kf x
    · rw [if_pos e, h y (List.mem_cons_self ..) e]
    · rw [if_neg e]
      refine valD_map (fun z hz => h z (List.mem_cons_of_mem _ hz)) ?_
      rcases List.mem_cons.mp hx with q | q
      · exact absurd (by rw [q]) e
      · exact q
theorem val_hops {ns : List Str} {f : Str → Option Str} {s : Str} (h : s ∈ ns) : valD (hopsK ns f) (.inr s) = some (hopD (f s)) :=
  valD_map (kf := fun s => .inr s) (fun y _ e => by cases e; rfl) h
def N_Table___init__ : List Str := ["self", "network", "hops", "node", "key"]
def t_Table___init__ [Wld] (K : PySem.W.Frag) (a : Ad) : TS := (tSeq (tIfS (tNot (tTru K (tCB (rIsiX K) (tCons (tVar 2) (tCons (tC (.ty "dict")) tNil))))) tNever tNext) (tSeq (tFor (iSeq K (tProp a.Network (sp_Network_nodes K a) [] E0 (tVar 1))) (gName 3) (tIfS (tOr (tTest (tOp (rNinX K) (tVar 3) (tVar 2))) (tNot (tTru K (tCall (sp_is_hop K a) [] E0 (tCons (tVar 1) (tCons (tOp (rIxX K) (tVar 2) (tVar 3)) tNil)))))) tNever tNext)) (tSeq (tFor (iKeysL (tVar 2)) (gName 4) (tIfS (tNot (tTru K (tCall (sp_is_node K a) [] E0 (tCons (tVar 1) (tCons (tVar 4) tNil))))) tNever tNext)) (tSeq (sFld K (tVar 0) (tVar 1) "own_network") (sFld K (tVar 0) (tDc (iSeq K (tProp a.Network (sp_Network_nodes K a) [] E0 (tVar 1))) (gName 3) tYes (tVar 3) (tOp (rIxX K) (tVar 2) (tVar 3)) [3]) "hops")))))
def C_Table_init (a : Ad) : Ct := fun ds P => ∃ ns es kvs f, ds = [netD a ns es, .dK kvs] ∧ ns.Nodup ∧ ns.length ≤ 8 ∧ (∀ s ∈ ns, valD kvs (.inr s) = some (hopD (f s)) ∧ isHop ns es (hopD (f s)) = true) ∧ (∀ kv ∈ kvs, ∃ s, s ∈ ns ∧ kv.1 = .inr s) ∧ P = (· = tabD a ns es f)
abbrev sp_Table___init__ (K : PySem.W.Frag) (a : Ad) : Sp := spI K a.Table 0 (C_Table_init a)
theorem pl_hop (o : Option Str) : Pl (hopD o) := by cases o <;> constructor
theorem bd_Table___init__ (T : Tc K a) : ∀ {vs H Q E}, sp_Table___init__ K a vs H Q E → t_Table___init__ K a { nx := fun _ H' => Q .non H', rt := Q } (L2.start N_Table___init__ vs) H := body_I fun o ds P m c => by
  obtain ⟨ns, es, kvs, f, rfl, nd, n8, hv, hk, rfl⟩ := c
  show DS K _ [.ow (.ins a.Table []) (· = o), .val (netD a ns es), .val (.dK kvs), .no, .no] m _
  unfold t_Table___init__
  have nodes : ∀ {Γ : Gm}, Γ[1]? = some (.val (netD a ns es)) → DI K (iSeq K (tProp a.Network (sp_Network_nodes K a) [] E0 (tVar 1))) Γ 0 (· = ns.map .str) := fun h => i_t (e_prop (f_var h) ⟨ns, es, rfl, rfl⟩)
  refine s_seq (es_if (b := false) (e_not (e_truB (isi_D (f_var rfl).r (.dK _)))) (fun h => nomatch h) fun _ => s_next ?_)
  refine s_seq (s_for (n := 0) (PL := (· = ns.map .str)) (fun ds i Γ m' => m' = m ∧ ∃ s, Γ = [.ow (.ins a.Table []) (· = o), .val (netD a ns es), .val (.dK kvs), s, .no]) (nodes rfl) (fun ds e => ⟨rfl, .no, rfl⟩) ?_ ?_)
  · rintro ds i d Γ' m' e hd ⟨rfl, s, rfl⟩
    subst e
    rw [List.getElem?_map] at hd
    cases q : ns[i]? with
    | none => rw [q] at hd; cases hd
    | some nm =>
      rw [q] at hd; cases hd
      obtain ⟨h1, h2⟩ := hv nm (List.mem_of_getElem? q)
      refine ⟨_, _, g_name, es_if (b := false) ((e_or (e_test (e_op ok_nin (f_var rfl).r (f_var rfl).r (z := .bl false) ?_)) fun _ => e_not (e_truB (e_call (ea_cons (f_var rfl) (ea_cons (e_op ok_ix (f_var rfl).r (f_var rfl).r (ix_dK h1)) a_nil)) ⟨ns, es, _, rfl, pl_hop _, rfl⟩))).cast ?_) (fun h => nomatch h) fun _ => s_next ⟨rfl, .val (.str nm), rfl⟩⟩
      · show blF (notO (some (valD kvs (.inr nm)).isSome)) = _
        rw [h1]; rfl
      · rw [h2]; rfl
  · rintro ds Γ' m' e ⟨rfl, s, rfl⟩
    refine s_seq (s_for (n := 0) (PL := (· = kvs.map fun kv => kD kv.1)) (fun ds i Γ mm => mm = m' ∧ ∃ s', Γ = [.ow (.ins a.Table []) (· = o), .val (netD a ns es), .val (.dK kvs), s, s']) (i_keys (f_var rfl)) (fun ds e => ⟨rfl, .no, rfl⟩) ?_ ?_)
    · rintro ds i d Γ' mm e hd ⟨rfl, s', rfl⟩
      subst e
      rw [List.getElem?_map] at hd
      cases q : kvs[i]? with
      | none => rw [q] at hd; cases hd
      | some kv =>
        rw [q] at hd; cases hd
        obtain ⟨sk, h1, h2⟩ := hk kv (List.mem_of_getElem? q)
        refine ⟨_, _, g_name, es_if (b := false) ((e_not (e_truB (e_call (ea_cons (f_var rfl) (ea_cons (f_var rfl) a_nil)) ⟨ns, es, .str sk, by show [netD a ns es, kD kv.1] = _; rw [h2]; rfl, .str _, rfl⟩))).cast ?_) (fun h => nomatch h) fun _ => s_next ⟨rfl, .val (kD kv.1), rfl⟩⟩
        show (!decide (sk ∈ ns)) = false
        rw [decide_eq_true h1]; rfl
    · rintro ds Γ' mm e ⟨rfl, s', rfl⟩
      refine s_seq (es_fld T.c_Table T.n_own_network rfl (by decide) (f_var rfl) ?_)
      have len : (ns.map D.str).length ≤ 16000000 := by rw [List.length_map]; omega
      refine es_fld T.c_Table T.n_hops rfl (Nat.lt_of_le_of_lt (len_putFD _ _ _) (by decide)) ((ew_dc (is := [3]) (vs := [3]) (ds := ns.map .str) (kf := fun d => (keyD d).getD (.inl 0)) (f := fun d => (ixF (.dK kvs) d).getD .non) (nodes rfl) len (by simp) ?_ fun i d hd => ?_).cast (d' := .dK (hopsK ns f)) ?_).f ⟨Nat.le_refl _, _, rfl, rfl⟩
      · rw [List.map_map]
        exact List.Pairwise.map _ (fun x y (h : x ≠ y) (e : (Sum.inr x : Key) = Sum.inr y) => h (by cases e; rfl)) nd
      · rw [List.getElem?_map] at hd
        cases q : ns[i]? with
        | none => rw [q] at hd; cases hd
        | some nm =>
          rw [q] at hd; cases hd
          obtain ⟨h1, h2⟩ := hv nm (List.mem_of_getElem? q)
          refine ⟨_, g_name, (f_var (d := .str nm) rfl).imp fun e he => by rw [he]; rfl, (e_op ok_ix (f_var rfl).r (f_var rfl).r (ix_dK h1)).cast ?_⟩
          show hopD (f nm) = (valD kvs (.inr nm)).getD .non
          rw [h1]; rfl
      · unfold hopsK
        rw [List.map_map]
        congr 1
        refine List.map_congr_left fun s hs => ?_
        show ((Sum.inr s : Key), (valD kvs (.inr s)).getD .non) = _
        rw [(hv s hs).1]; rfl
def N_Table_network : List Str := ["self"]
def t_Table_network [Wld] (K : PySem.W.Frag) (a : Ad) : TS := (tRet (tFld K (tVar 0) "own_network"))
def N_Table___getitem__ : List Str := ["self", "node"]
def t_Table___getitem__ [Wld] (K : PySem.W.Frag) (a : Ad) : TS := (tSeq (tIfS (tNot (tTru K (tCall (sp_is_node K a) [] E0 (tCons (tFld K (tVar 0) "own_network") (tCons (tVar 1) tNil))))) tNever tNext) (tRet (tOp (rIxX K) (tFld K (tVar 0) "hops") (tVar 1))))
def C_Table_network (a : Ad) : Ct := fun ds P => ∃ ns es f, ds = [tabD a ns es f] ∧ P = (· = netD a ns es)
def C_Table_getitem (a : Ad) : Ct := fun ds P => ∃ ns es f s, ds = [tabD a ns es f, .str s] ∧ s ∈ ns ∧ P = (· = hopD (f s))
abbrev sp_Table_network (K : PySem.W.Frag) (a : Ad) : Sp := spF K 0 (C_Table_network a)
abbrev sp_Table___getitem__ (K : PySem.W.Frag) (a : Ad) : Sp := spF K 0 (C_Table_getitem a)
theorem bd_Table_network (T : Tc K a) : ∀ {vs H Q E}, sp_Table_network K a vs H Q E → t_Table_network K a { nx := fun _ H' => Q .non H', rt := Q } (L2.start N_Table_network vs) H := body_F fun ds P m c => by
  obtain ⟨ns, es, f, rfl, rfl⟩ := c
  exact es_ret (e_fld T.c_Table T.n_own_network (f_var rfl).r (tab_net ns es f)) ⟨Nat.le_refl _, rfl⟩
theorem bd_Table___getitem__ (T : Tc K a) : ∀ {vs H Q E}, sp_Table___getitem__ K a vs H Q E → t_Table___getitem__ K a { nx := fun _ H' => Q .non H', rt := Q } (L2.start N_Table___getitem__ vs) H := body_F fun ds P m c => by
  obtain ⟨ns, es, f, s, rfl, hs, rfl⟩ := c
  refine s_seq (es_if (b := false) ((e_not (e_truB (e_call (ea_cons (e_fld T.c_Table T.n_own_network (f_var rfl).r (tab_net ns es f)) (ea_cons (f_var rfl) a_nil)) ⟨ns, es, .str s, rfl, .str _, rfl⟩))).cast ?_) (fun h => nomatch h) fun _ => s_next ?_)
  · show (!decide (s ∈ ns)) = false
    rw [decide_eq_true hs]; rfl
  · exact es_ret (e_op ok_ix (e_fld T.c_Table T.n_hops (f_var rfl).r (tab_hops ns es f)).r (f_var rfl).r (ix_dK (val_hops hs))) ⟨Nat.le_refl _, rfl⟩
end
end DL
set_option Elab.async false
set_option linter.all false
set_option maxRecDepth 100000
set_option maxHeartbeats 2000000
/-! Kc: updates. -/
namespace DL
open PySem L2
/-- an update: the names, the hops of each flow ahead and behind -/
structure Up where
  ns : List Str
  es : List Str
  fl : List Str
  o : Str → Str → Option Str
  n : Str → Str → Option Str
structure FlOk (fl : List Str) : Prop where
  ok : ∀ s ∈ fl, NameOk s
  nd : fl.Nodup
  f1 : 1 ≤ fl.length
  f3 : fl.length ≤ 3
def Up.sort (u : Up) : Up := { u with fl := sortS u.fl }
def pairD (a : Ad) (u : Up) (l : Str) : D := .tup [tabD a u.ns u.es (u.o l), tabD a u.ns u.es (u.n l)]
def flowsK (a : Ad) (u : Up) : List (Key × D) := u.fl.map fun l => (.inr l, pairD a u l)
def updF (a : Ad) (u : Up) : List (Str × D) := putFD "pairs" (.dK (flowsK a u)) (putFD "own_network" (netD a u.ns u.es) [])
def updD (a : Ad) (u : Up) : D := .ins a.Update (updF a u)
section
variable [Wld] {K : PySem.W.Frag} {a : Ad} {m n : Nat} {Γ : Gm} {te ta tb : TE} {d x y : D}
theorem upd_net (u : Up) : (updF a u).lookup ("own_network" : Str) = some (netD a u.ns u.es) := by
  unfold updF; rw [lookup_putFD, if_neg (by decide +kernel), lookup_putFD, if_pos rfl]
theorem upd_pairs (u : Up) : (updF a u).lookup ("pairs" : Str) = some (.dK (flowsK a u)) := by
  unfold updF; rw [lookup_putFD, if_pos rfl]
theorem val_flows {u : Up} {l : Str} (h : l ∈ u.fl) : valD (flowsK a u) (.inr l) = some (pairD a u l) :=
  valD_map (kf := fun s => .inr s) (fun y _ e => by cases e; rfl) h
theorem flows_keys (u : Up) : (flowsK a u).map (fun kv => kD kv.1) = u.fl.map .str := by
  unfold flowsK; rw [List.map_map]; rfl
def N_need_flows : List Str := ["network", "flows", "flow", "pair", "table"]
def t_need_flows [Wld] (K : PySem.W.Frag) (a : Ad) : TS := (tSeq (tIfS (tNot (tTru K (tCB (rIsiX K) (tCons (tVar 1) (tCons (tC (.ty "dict")) tNil))))) tNever tNext) (tSeq (tFor (iKeysL (tVar 1)) (gName 2) (tIfS (tNot (tTru K (tCall (sp_is_name K a) [] E0 (tCons (tVar 2) tNil)))) tNever tNext)) (tSeq (tIfS (tNot (tTest (tChain (rLe) (rLe) (tC (.int 1)) (tCB (rLenX K) (tCons (tVar 1) tNil)) (tC (.int 3))))) tNever tNext) (tFor (iKeysL (tVar 1)) (gName 2) (tSeq (tAsg (tOp (rIxX K) (tVar 1) (tVar 2)) (gName 3)) (tSeq (tIfS (tOr (tNot (tTru K (tCB (rIsiX K) (tCons (tVar 3) (tCons (tC (.ty "tuple")) tNil))))) (tTest (tOp (rNeP K) (tCB (rLenX K) (tCons (tVar 3) tNil)) (tC (.int 2))))) tNever tNext) (tFor (iSeq K (tVar 3)) (gName 4) (tIfS (tOr (tNot (tTru K (tCB (rIsiX K) (tCons (tVar 4) (tCons (tC (.ref a.Table)) tNil))))) (tTest (tOp (rNeO a.Network (sp_Network___eq__ K a)) (tProp a.Table (sp_Table_network K a) [] E0 (tVar 4)) (tVar 0)))) tNever tNext))))))))
def C_need_flows (a : Ad) : Ct := fun ds P => ∃ u, ds = [netD a u.ns u.es, .dK (flowsK a u)] ∧ FlOk u.fl ∧ P = (· = .non)
abbrev sp_need_flows (K : PySem.W.Frag) (a : Ad) : Sp := spF K 0 (C_need_flows a)
theorem bd_need_flows (T : Tc K a) : ∀ {vs H Q E}, sp_need_flows K a vs H Q E → t_need_flows K a { nx := fun _ H' => Q .non H', rt := Q } (L2.start N_need_flows vs) H := body_F fun ds P m c => by
  obtain ⟨u, rfl, ok, rfl⟩ := c
  show DS K _ [.val (netD a u.ns u.es), .val (.dK (flowsK a u)), .no, .no, .no] m _
  unfold t_need_flows
  refine s_seq (es_if (b := false) (e_not (e_truB (isi_D (f_var rfl).r (.dK _)))) (fun h => nomatch h) fun _ => s_next ?_)
  refine s_seq (s_for (n := 0) (PL := (· = u.fl.map .str)) (fun ds i Γ m' => m' = m ∧ ∃ s, Γ = [.val (netD a u.ns u.es), .val (.dK (flowsK a u)), s, .no, .no]) (flows_keys (a := a) u ▸ i_keys (f_var rfl)) (fun ds e => ⟨rfl, .no, rfl⟩) ?_ ?_)
  · rintro ds i d Γ' m' e hd ⟨rfl, s, rfl⟩
    subst e
    rw [List.getElem?_map] at hd
    cases q : u.fl[i]? with
    | none => rw [q] at hd; cases hd
    | some l =>
      rw [q] at hd; cases hd
      exact ⟨_, _, g_name, es_if (b := false) (e_not (b := true) (e_truB (e_call (ea_cons (f_var rfl) a_nil) ⟨l, rfl, ok.ok l (List.mem_of_getElem? q), rfl⟩))) (fun h => nomatch h) fun _ => s_next ⟨rfl, .val (.str l), rfl⟩⟩
  · rintro ds Γ' m' e ⟨rfl, s, rfl⟩
    have l1 : lenF (.dK (flowsK a u)) = some (.int u.fl.length) := by show some (D.int ((flowsK a u).length : Nat)) = _; unfold flowsK; rw [List.length_map]
    refine s_seq (es_if (b := false) ((e_not (e_test (e_chain ok_le ok_le c_int.r (e_cb ok_len (f_var rfl).r l1).r c_int.r rfl rfl))).cast ?_) (fun h => nomatch h) fun _ => s_next ?_)
    · rw [decide_eq_true (show (1 : Int) ≤ (u.fl.length : Int) by have := ok.f1; omega), decide_eq_true (show (u.fl.length : Int) ≤ 3 by have := ok.f3; omega)]; rfl
    refine s_for (n := 0) (PL := (· = u.fl.map .str)) (fun ds i Γ mm => mm = m' ∧ ∃ s t v, Γ = [.val (netD a u.ns u.es), .val (.dK (flowsK a u)), s, t, v]) (flows_keys (a := a) u ▸ i_keys (f_var rfl)) (fun ds e => ⟨rfl, _, _, _, rfl⟩) ?_ ?_
    · rintro ds i d Γ' mm e hd ⟨rfl, s, t, v, rfl⟩
      subst e
      rw [List.getElem?_map] at hd
      cases q : u.fl[i]? with
      | none => rw [q] at hd; cases hd
      | some l =>
        rw [q] at hd; cases hd
        refine ⟨_, _, g_name, s_seq (es_set (e_op ok_ix (f_var rfl).r (f_var rfl).r (ix_dK (val_flows (List.mem_of_getElem? q)))) ?_)⟩
        refine s_seq (es_if (b := false) (e_or (e_not (e_truB (isi_T (f_var rfl).r (.tup _)))) fun _ => e_test (e_op ok_ne (e_cb ok_len (f_var rfl).r rfl).r c_int.r rfl)) (fun h => nomatch h) fun _ => s_next ?_)
        refine s_for (n := 0) (PL := (· = [tabD a u.ns u.es (u.o l), tabD a u.ns u.es (u.n l)])) (fun ds i Γ m2 => m2 = mm ∧ ∃ s t v, Γ = [.val (netD a u.ns u.es), .val (.dK (flowsK a u)), s, t, v]) (i_t (f_var rfl)) (fun ds e => ⟨rfl, _, _, _, rfl⟩) ?_ ?_
        · rintro ds j d Γ' m2 e hd ⟨rfl, s, t, v, rfl⟩
          subst e
          obtain ⟨f, rfl⟩ : ∃ f, d = tabD a u.ns u.es f := by
            have := List.mem_of_getElem? hd
            rcases List.mem_cons.mp this with e | e
            · exact ⟨_, e⟩
            · exact ⟨_, List.mem_singleton.mp e⟩
          refine ⟨_, _, g_name, es_if (b := false) ((e_or (e_not (e_truB (isi_own T.i_Table T.k_Table (f_var rfl).r))) fun _ => e_test (e_neO (n := 0) (e_prop (f_var rfl) ⟨u.ns, u.es, f, rfl, rfl⟩) (f_var rfl) ⟨u.ns, u.es, u.ns, u.es, rfl, rfl⟩)).cast ?_) (fun h => nomatch h) fun _ => s_next ⟨rfl, _, _, _, rfl⟩⟩
          rw [decide_eq_true rfl, decide_eq_true rfl]; rfl
        · rintro ds Γ' m2 e ⟨rfl, s, t, v, rfl⟩
          exact ⟨rfl, _, _, _, rfl⟩
    · rintro ds Γ' mm e ⟨rfl, s, t, v, rfl⟩
      exact ⟨Nat.le_refl _, rfl⟩
def N_Update___init__ : List Str := ["self", "network", "flows", "name", "flow"]
def t_Update___init__ [Wld] (K : PySem.W.Frag) (a : Ad) : TS := (tSeq (tDrop (tCall (sp_need_flows K a) [] E0 (tCons (tVar 1) (tCons (tVar 2) tNil)))) (tSeq (sFld K (tVar 0) (tVar 1) "own_network") (sFld K (tVar 0) (tDc (iSeq K (tCB (rSortX K) (tCons (tLc (iKeysL (tVar 2)) (gName 3) tYes (tCB (rStrX) (tCons (tVar 3) tNil)) [3]) tNil))) (gName 4) tYes (tVar 4) (tOp (rIxX K) (tVar 2) (tVar 4)) [4]) "pairs")))
def C_Update_init (a : Ad) : Ct := fun ds P => ∃ u, ds = [netD a u.ns u.es, .dK (flowsK a u)] ∧ FlOk u.fl ∧ P = (· = updD a u.sort)
abbrev sp_Update___init__ (K : PySem.W.Frag) (a : Ad) : Sp := spI K a.Update 0 (C_Update_init a)
theorem bd_Update___init__ (T : Tc K a) : ∀ {vs H Q E}, sp_Update___init__ K a vs H Q E → t_Update___init__ K a { nx := fun _ H' => Q .non H', rt := Q } (L2.start N_Update___init__ vs) H := body_I fun o ds P m c => by
  obtain ⟨u, rfl, ok, rfl⟩ := c
  show DS K _ [.ow (.ins a.Update []) (· = o), .val (netD a u.ns u.es), .val (.dK (flowsK a u)), .no, .no] m _
  unfold t_Update___init__
  refine s_seq (s_drop (n := 0) (e_call (ea_cons (f_var rfl) (ea_cons (f_var rfl) a_nil)) ⟨u, rfl, ok, rfl⟩) fun _ _ => ?_)
  refine s_seq (es_fld T.c_Update T.n_uown_network rfl (by decide) (f_var rfl) ?_)
  have hl := ok.f3
  have hk : ∀ {Γ : Gm}, Γ[2]? = some (.val (.dK (flowsK a u))) → 3 < Γ.length → DW K (tLc (iKeysL (tVar 2)) (gName 3) tYes (tCB rStrX (tCons (tVar 3) tNil)) [3]) Γ 0 (· = .lst (u.fl.map .str)) := fun {Γ} hΓ h3 => by
    refine (ew_map (is := [3]) (ds := u.fl.map .str) (f := id) (flows_keys (a := a) u ▸ i_keys (f_var hΓ)) (by rw [List.length_map]; omega) (by simp) fun i d hd => ⟨_, g_name, ?_⟩).cast (by rw [List.map_id])
    rw [List.getElem?_map] at hd
    cases q : u.fl[i]? with
    | none => rw [q] at hd; cases hd
    | some l =>
      rw [q] at hd; cases hd
      exact e_cb ok_str (f_var (set_at (by show 3 < (List.set Γ 3 .no).length; rw [List.length_set]; exact h3))).r rfl
  refine es_fld T.c_Update T.n_pairs rfl (Nat.lt_of_le_of_lt (len_putFD _ _ _) (by decide)) ((ew_dc (is := [4]) (vs := [4]) (ds := (sortS u.fl).map .str) (kf := fun d => (keyD d).getD (.inl 0)) (f := fun d => (ixF (.dK (flowsK a u)) d).getD .non) (i_l (ew_sorted (hk rfl (by show 3 < 5; omega)).f.r (by omega)).f) (by rw [List.length_map, sortS_len]; omega) (by simp) ?_ fun i d hd => ?_).cast (d' := .dK (flowsK a u.sort)) ?_).f ⟨Nat.le_refl _, _, rfl, rfl⟩
  · rw [List.map_map]
    have nd2 : (sortS u.fl).Nodup := (sortS_perm u.fl).nodup_iff.mpr ok.nd
    exact List.Pairwise.map _ (fun x y (h : x ≠ y) (e : (Sum.inr x : Key) = Sum.inr y) => h (by cases e; rfl)) nd2
  · rw [List.getElem?_map] at hd
    cases q : (sortS u.fl)[i]? with
    | none => rw [q] at hd; cases hd
    | some l =>
      rw [q] at hd; cases hd
      have hm := sortS_mem.mp (List.mem_of_getElem? q)
      refine ⟨_, g_name, (f_var (d := .str l) rfl).imp fun e he => by rw [he]; rfl, (e_op ok_ix (f_var rfl).r (f_var rfl).r (ix_dK (val_flows hm))).cast ?_⟩
      show pairD a u l = (valD (flowsK a u) (.inr l)).getD .non
      rw [val_flows hm]; rfl
  · unfold flowsK
    rw [List.map_map]
    congr 1
    refine List.map_congr_left fun l hl => ?_
    show ((Sum.inr l : Key), (valD (flowsK a u) (.inr l)).getD .non) = _
    rw [val_flows (sortS_mem.mp hl)]; rfl
def N_Update_flows : List Str := ["self"]
def t_Update_flows [Wld] (K : PySem.W.Frag) (a : Ad) : TS := (tRet (tCB (rTupX K) (tCons (tFld K (tVar 0) "pairs") tNil)))
def N_Update_network : List Str := ["self"]
def t_Update_network [Wld] (K : PySem.W.Frag) (a : Ad) : TS := (tRet (tFld K (tVar 0) "own_network"))
def C_Update_flows (a : Ad) : Ct := fun ds P => ∃ u, ds = [updD a u] ∧ P = (· = strsT u.fl)
def C_Update_network (a : Ad) : Ct := fun ds P => ∃ u, ds = [updD a u] ∧ P = (· = netD a u.ns u.es)
abbrev sp_Update_flows (K : PySem.W.Frag) (a : Ad) : Sp := spF K 0 (C_Update_flows a)
abbrev sp_Update_network (K : PySem.W.Frag) (a : Ad) : Sp := spF K 0 (C_Update_network a)
def N_need_flow : List Str := ["update", "flow"]
def t_need_flow [Wld] (K : PySem.W.Frag) (a : Ad) : TS := (tIfS (tOr (tNot (tTru K (tCB (rIsiX K) (tCons (tVar 1) (tCons (tC (.ty "str")) tNil))))) (tTest (tOp (rNinX K) (tVar 1) (tProp a.Update (sp_Update_flows K a) [] E0 (tVar 0))))) tNever tNext)
def C_need_flow (a : Ad) : Ct := fun ds P => ∃ u l, ds = [updD a u, .str l] ∧ l ∈ u.fl ∧ P = (· = .non)
abbrev sp_need_flow (K : PySem.W.Frag) (a : Ad) : Sp := spF K 0 (C_need_flow a)
def N_Update_old : List Str := ["self", "flow"]
def t_Update_old [Wld] (K : PySem.W.Frag) (a : Ad) : TS := (tSeq (tDrop (tCall (sp_need_flow K a) [] E0 (tCons (tVar 0) (tCons (tVar 1) tNil)))) (tRet (tOp (rIxX K) (tOp (rIxX K) (tFld K (tVar 0) "pairs") (tVar 1)) (tC (.int 0)))))
def N_Update_new : List Str := ["self", "flow"]
def t_Update_new [Wld] (K : PySem.W.Frag) (a : Ad) : TS := (tSeq (tDrop (tCall (sp_need_flow K a) [] E0 (tCons (tVar 0) (tCons (tVar 1) tNil)))) (tRet (tOp (rIxX K) (tOp (rIxX K) (tFld K (tVar 0) "pairs") (tVar 1)) (tC (.int 1)))))
def C_Update_old (a : Ad) : Ct := fun ds P => ∃ u l, ds = [updD a u, .str l] ∧ l ∈ u.fl ∧ P = (· = tabD a u.ns u.es (u.o l))
def C_Update_new (a : Ad) : Ct := fun ds P => ∃ u l, ds = [updD a u, .str l] ∧ l ∈ u.fl ∧ P = (· = tabD a u.ns u.es (u.n l))
abbrev sp_Update_old (K : PySem.W.Frag) (a : Ad) : Sp := spF K 0 (C_Update_old a)
abbrev sp_Update_new (K : PySem.W.Frag) (a : Ad) : Sp := spF K 0 (C_Update_new a)
theorem bd_Update_flows (T : Tc K a) : ∀ {vs H Q E}, sp_Update_flows K a vs H Q E → t_Update_flows K a { nx := fun _ H' => Q .non H', rt := Q } (L2.start N_Update_flows vs) H := body_F fun ds P m c => by
  obtain ⟨u, rfl, rfl⟩ := c
  refine es_ret (e_cb ok_tup (e_fld T.c_Update T.n_pairs (f_var rfl).r (upd_pairs u)).r ?_) ⟨Nat.le_refl _, rfl⟩
  show some (D.tup ((flowsK a u).map fun kv => kD kv.1)) = _
  rw [flows_keys]; rfl
theorem bd_Update_network (T : Tc K a) : ∀ {vs H Q E}, sp_Update_network K a vs H Q E → t_Update_network K a { nx := fun _ H' => Q .non H', rt := Q } (L2.start N_Update_network vs) H := body_F fun ds P m c => by
  obtain ⟨u, rfl, rfl⟩ := c
  exact es_ret (e_fld T.c_Update T.n_uown_network (f_var rfl).r (upd_net u)) ⟨Nat.le_refl _, rfl⟩
theorem bd_need_flow (T : Tc K a) : ∀ {vs H Q E}, sp_need_flow K a vs H Q E → t_need_flow K a { nx := fun _ H' => Q .non H', rt := Q } (L2.start N_need_flow vs) H := body_F fun ds P m c => by
  obtain ⟨u, l, rfl, hl, rfl⟩ := c
  refine es_if (b := false) ((e_or (e_not (e_truB (isi_S (f_var rfl).r (.str _)))) fun _ => e_test (e_op ok_nin (f_var rfl).r (e_prop (f_var rfl) ⟨u, rfl, rfl⟩).r (z := .bl false) ?_))) (fun h => nomatch h) fun _ => s_next ⟨Nat.le_refl _, rfl⟩
  rw [strsT, (inF_strs _ _).2, decide_eq_true hl]; rfl
theorem bd_Update_old (T : Tc K a) : ∀ {vs H Q E}, sp_Update_old K a vs H Q E → t_Update_old K a { nx := fun _ H' => Q .non H', rt := Q } (L2.start N_Update_old vs) H := body_F fun ds P m c => by
  obtain ⟨u, l, rfl, hl, rfl⟩ := c
  refine s_seq (s_drop (n := 0) (e_call (ea_cons (f_var rfl) (ea_cons (f_var rfl) a_nil)) ⟨u, l, rfl, hl, rfl⟩) fun _ _ => ?_)
  exact es_ret (e_op ok_ix (e_op ok_ix (e_fld T.c_Update T.n_pairs (f_var rfl).r (upd_pairs u)).r (f_var rfl).r (ix_dK (val_flows hl))).r c_int.r (ix_tup (i := 0) rfl)) ⟨Nat.le_refl _, rfl⟩
theorem bd_Update_new (T : Tc K a) : ∀ {vs H Q E}, sp_Update_new K a vs H Q E → t_Update_new K a { nx := fun _ H' => Q .non H', rt := Q } (L2.start N_Update_new vs) H := body_F fun ds P m c => by
  obtain ⟨u, l, rfl, hl, rfl⟩ := c
  refine s_seq (s_drop (n := 0) (e_call (ea_cons (f_var rfl) (ea_cons (f_var rfl) a_nil)) ⟨u, l, rfl, hl, rfl⟩) fun _ _ => ?_)
  exact es_ret (e_op ok_ix (e_op ok_ix (e_fld T.c_Update T.n_pairs (f_var rfl).r (upd_pairs u)).r (f_var rfl).r (ix_dK (val_flows hl))).r c_int.r (ix_tup (i := 1) rfl)) ⟨Nat.le_refl _, rfl⟩
end
end DL
set_option Elab.async false
set_option linter.all false
set_option maxRecDepth 100000
set_option maxHeartbeats 2000000
/-! Kd: plans. -/
namespace DL
open PySem L2
section
variable [Wld] {K : PySem.W.Frag} {a : Ad} {m n : Nat} {Γ : Gm} {te ta tb : TE} {d x y : D}
theorem i_seq {ds : List D} (h : DF K te Γ n (· = x)) (hs : isSeq x = some ds) : DI K (iSeq K te) Γ n (· = ds) := by
  cases x <;> try (cases hs; done)
  · cases hs; exact i_l h
  · cases hs; exact i_t h
theorem seq_pl {ds : List D} (hs : isSeq x = some ds) : Pl x := by
  cases x <;> first | (cases hs; done) | constructor
theorem seq_len {ds : List D} (hs : isSeq x = some ds) : lenF x = some (.int ds.length) := by
  cases x <;> try (cases hs; done)
  · cases hs; rfl
  · cases hs; rfl
theorem seq_isLT {ds : List D} (hs : isSeq x = some ds) : (isTL x || isTT x) = true := by
  cases x <;> try (cases hs; done)
  · rfl
  · rfl
/-- a list (or tuple) of lists of names -/
inductive RowsAre : List D → List (List Str) → Prop
  | nil : RowsAre [] []
  | cons {x : D} {r : List Str} {xs : List D} {rs : List (List Str)} : isSeq x = some (r.map .str) → RowsAre xs rs → RowsAre (x :: xs) (r :: rs)
theorem RowsAre.get : ∀ {xs : List D} {rs : List (List Str)} {i : Nat} {x : D}, RowsAre xs rs → xs[i]? = some x → ∃ r, rs[i]? = some r ∧ isSeq x = some (r.map .str)
  | _, _, 0, _, .cons h _, e => by cases e; exact ⟨_, rfl, h⟩
  | _, _, i + 1, _, .cons _ r, e => RowsAre.get (i := i) r e
theorem RowsAre.length : ∀ {xs : List D} {rs : List (List Str)}, RowsAre xs rs → xs.length = rs.length
  | _, _, .nil => rfl
  | _, _, .cons _ r => congrArg (· + 1) r.length
theorem rowsL : ∀ rs : List (List Str), RowsAre (rs.map strsL) rs
  | [] => .nil
  | r :: rs => .cons rfl (rowsL rs)
theorem rowsT : ∀ rs : List (List Str), RowsAre (rs.map strsT) rs
  | [] => .nil
  | r :: rs => .cons rfl (rowsT rs)
structure RowOk (rs : List (List Str)) : Prop where
  ok : ∀ s ∈ rs.flatten, NameOk s
  nd : rs.flatten.Nodup
  ne : ∀ r ∈ rs, r ≠ []
  le : rs.flatten.length ≤ 60
theorem RowOk.len {rs : List (List Str)} (ok : RowOk rs) : rs.length ≤ 60 := by
  have : ∀ rs : List (List Str), (∀ r ∈ rs, r ≠ []) → rs.length ≤ rs.flatten.length := by
    intro rs
    induction rs with
    | nil => intro _; exact Nat.le_refl _
    | cons r rs ih =>
      intro h
      have h1 := ih fun r hr => h r (List.mem_cons_of_mem _ hr)
      have h2 := List.length_pos_iff.mpr (h r (List.mem_cons_self ..))
      rw [List.flatten_cons, List.length_append, List.length_cons]; omega
  have := this rs ok.ne
  have := ok.le
  omega
theorem flat_take {rs : List (List Str)} {i : Nat} {r : List Str} (h : rs[i]? = some r) : (rs.take (i + 1)).flatten = (rs.take i).flatten ++ r := by
  rw [take_succ h, List.flatten_append]; simp
theorem split_at {α : Type} {l : List α} {i : Nat} {x : α} (h : l[i]? = some x) : l = l.take i ++ x :: l.drop (i + 1) := by
  obtain ⟨hl, e⟩ := List.getElem?_eq_some_iff.mp h
  rw [← e, ← List.drop_eq_getElem_cons hl, List.take_append_drop]
theorem flat_split {rs : List (List Str)} {i : Nat} {r : List Str} (h : rs[i]? = some r) : ∃ t, rs.flatten = (rs.take i).flatten ++ (r ++ t) := by
  refine ⟨(rs.drop (i + 1)).flatten, ?_⟩
  have e := split_at h
  conv => lhs; rw [e]
  rw [List.flatten_append, List.flatten_cons]
theorem row_len {rs : List (List Str)} (ok : RowOk rs) {i : Nat} {r : List Str} (h : rs[i]? = some r) : r.length ≤ 60 := by
  obtain ⟨t, e⟩ := flat_split h
  have := ok.le
  rw [e, List.length_append, List.length_append] at this
  omega
theorem fresh_at {rs : List (List Str)} (ok : RowOk rs) {i j : Nat} {r : List Str} {s : Str} (h : rs[i]? = some r) (hj : r[j]? = some s) : s ∉ (rs.take i).flatten ++ r.take j := by
  obtain ⟨t, e⟩ := flat_split h
  have nd := ok.nd
  have er := split_at hj
  rw [e, er] at nd
  simp only [List.append_assoc, List.cons_append] at nd
  rw [← List.append_assoc] at nd
  intro hm
  have := (List.nodup_append.mp nd).2.2 s hm s (List.mem_cons_self ..)
  exact this rfl
def N_need_steps : List Str := ["steps", "seen", "step", "name"]
def t_need_steps [Wld] (K : PySem.W.Frag) (a : Ad) : TS := (tSeq (tIfS (tNot (tTru K (tCB (rIsiX K) (tCons (tVar 0) (tCons (tTup (tCons (tC (.ty "list")) (tCons (tC (.ty "tuple")) tNil))) tNil))))) tNever tNext) (tSeq (tAsg (tLst tNil) (gName 1)) (tFor (iSeq K (tVar 0)) (gName 2) (tSeq (tIfS (tOr (tNot (tTru K (tCB (rIsiX K) (tCons (tVar 2) (tCons (tTup (tCons (tC (.ty "list")) (tCons (tC (.ty "tuple")) tNil))) tNil))))) (tTest (tOp (rEqP K) (tCB (rLenX K) (tCons (tVar 2) tNil)) (tC (.int 0))))) tNever tNext) (tFor (iSeq K (tVar 2)) (gName 3) (tSeq (tIfS (tOr (tNot (tTru K (tCall (sp_is_name K a) [] E0 (tCons (tVar 3) tNil)))) (tTest (tOp (rInX K) (tVar 3) (tVar 1)))) tNever tNext) (tDrop (tBM K "list" rAppend (tVar 1) (tCons (tVar 3) tNil)))))))))
def C_need_steps : Ct := fun ds P => ∃ x xs rs, ds = [x] ∧ isSeq x = some xs ∧ RowsAre xs rs ∧ RowOk rs ∧ P = (· = .non)
abbrev sp_need_steps (K : PySem.W.Frag) (a : Ad) : Sp := spF K 0 C_need_steps
theorem bd_need_steps (T : Tc K a) : ∀ {vs H Q E}, sp_need_steps K a vs H Q E → t_need_steps K a { nx := fun _ H' => Q .non H', rt := Q } (L2.start N_need_steps vs) H := body_F fun ds P m c => by
  obtain ⟨x, xs, rs, rfl, hx, hr, ok, rfl⟩ := c
  show DS K _ [.val x, .no, .no, .no] m _
  unfold t_need_steps
  refine s_seq (es_if (b := false) ((e_not (e_truB (isi_LT (f_var rfl).r (seq_pl hx)))).cast (by rw [seq_isLT hx]; rfl)) (fun h => nomatch h) fun _ => s_next ?_)
  refine s_seq (es_setW (ew_lst a_nil) ?_)
  refine s_for (n := 0) (PL := (· = xs)) (fun ds i Γ m' => m' = m ∧ ∃ s t, Γ = [.val x, .ow (.lst ((rs.take i).flatten.map .str)), s, t]) (i_seq (f_var rfl) hx) (fun ds e => ⟨rfl, .no, .no, rfl⟩) ?_ ?_
  · rintro ds i d Γ' m' e hd ⟨rfl, s, t, rfl⟩
    subst e
    obtain ⟨r, hri, hd2⟩ := hr.get hd
    refine ⟨_, _, g_name, s_seq (es_if (b := false) ((e_or (e_not (e_truB (isi_LT (f_var rfl).r (seq_pl hd2)))) fun _ => e_test (e_op ok_eq (e_cb ok_len (f_var rfl).r (seq_len hd2)).r c_int.r (by rw [eqF_int]; rfl))).cast ?_) (fun h => nomatch h) fun _ => s_next ?_)⟩
    · rw [seq_isLT hd2, List.length_map, decide_eq_false]; rfl
      have := List.length_pos_iff.mpr (ok.ne r (List.mem_of_getElem? hri)); omega
    refine s_for (n := 0) (PL := (· = r.map .str)) (fun ds j Γ mm => mm = m' ∧ ∃ t, Γ = [.val x, .ow (.lst (((rs.take i).flatten ++ r.take j).map .str)), .val d, t]) (i_seq (f_var rfl) hd2) (fun ds e => ⟨rfl, t, by rw [List.take_zero, List.append_nil]; rfl⟩) ?_ ?_
    · rintro ds j dd Γ' mm e he ⟨rfl, t, rfl⟩
      subst e
      rw [List.getElem?_map] at he
      cases q : r[j]? with
      | none => rw [q] at he; cases he
      | some nm =>
        rw [q] at he; cases he
        have hin : nm ∈ rs.flatten := List.mem_flatten.mpr ⟨r, List.mem_of_getElem? hri, List.mem_of_getElem? q⟩
        refine ⟨_, _, g_name, s_seq (es_if (b := false) ((e_or (e_not (b := true) (e_truB (e_call (ea_cons (f_var rfl) a_nil) ⟨nm, rfl, ok.ok nm hin, rfl⟩))) fun _ => e_test (e_opB ok_in (f_var rfl).r (r_var rfl) (by rw [(inF_strs _ _).1]; rfl))).cast ?_) (fun h => nomatch h) fun _ => s_next ?_)⟩
        · rw [(inF_strs _ _).1]
          show (false || decide (nm ∈ (rs.take i).flatten ++ r.take j)) = false
          rw [decide_eq_false (fresh_at ok hri q)]; rfl
        · refine es_app rfl ?_ (f_var rfl) ⟨rfl, .val (.str nm), ?_⟩
          · rw [List.length_map, List.length_append]
            have h1 := ok.le
            obtain ⟨tt, e⟩ := flat_split hri
            rw [e, List.length_append, List.length_append] at h1
            rw [List.length_take]; omega
          · show [_, Sl.ow (.lst (((rs.take i).flatten ++ r.take j).map D.str ++ [.str nm])), _, _] = _
            rw [take_succ q]; simp [List.map_append, List.append_assoc]
    · rintro ds Γ' mm e ⟨rfl, t, rfl⟩
      subst e
      refine ⟨rfl, .val d, t, ?_⟩
      rw [List.length_map, List.take_length, flat_take hri]
  · rintro ds Γ' m' e ⟨rfl, s, t, rfl⟩
    exact ⟨Nat.le_refl _, rfl⟩
theorem inF_ints (x : Int) (l : List Int) [Decidable (x ∈ l)] : inF (.int x) (.lst (l.map .int)) = some (decide (x ∈ l)) ∧ inF (.int x) (.tup (l.map .int)) = some (decide (x ∈ l)) :=
  inF_seq (k := 0) (fun _ => rfl) (fun _ => Nat.le_refl _) (by omega) eqv_int x l
structure WaitOk (k : Nat) (ws : List Int) : Prop where
  nd : ws.Nodup
  ok : ∀ v ∈ ws, 0 ≤ v ∧ v < (k : Int) - 1
  le : ws.length ≤ 60
def N_need_waits : List Str := ["many", "waits", "seen", "wait"]
def t_need_waits [Wld] (K : PySem.W.Frag) (a : Ad) : TS := (tSeq (tIfS (tNot (tTru K (tCB (rIsiX K) (tCons (tVar 1) (tCons (tTup (tCons (tC (.ty "list")) (tCons (tC (.ty "tuple")) tNil))) tNil))))) tNever tNext) (tSeq (tAsg (tLst tNil) (gName 2)) (tFor (iSeq K (tVar 1)) (gName 3) (tSeq (tIfS (tOr (tNot (tTru K (tCB (rIsiX K) (tCons (tVar 3) (tCons (tC (.ty "int")) tNil))))) (tOr (tTru K (tCB (rIsiX K) (tCons (tVar 3) (tCons (tC (.ty "bool")) tNil)))) (tOr (tNot (tTest (tChain (rLe) (rLtX) (tC (.int 0)) (tVar 3) (tOp (rSubI) (tVar 0) (tC (.int 1)))))) (tTest (tOp (rInX K) (tVar 3) (tVar 2)))))) tNever tNext) (tDrop (tBM K "list" rAppend (tVar 2) (tCons (tVar 3) tNil)))))))
def C_need_waits : Ct := fun ds P => ∃ (k : Nat) (x : D) (ws : List Int), ds = [.int k, x] ∧ isSeq x = some (ws.map .int) ∧ WaitOk k ws ∧ P = (· = .non)
abbrev sp_need_waits (K : PySem.W.Frag) (a : Ad) : Sp := spF K 0 C_need_waits
theorem bd_need_waits (T : Tc K a) : ∀ {vs H Q E}, sp_need_waits K a vs H Q E → t_need_waits K a { nx := fun _ H' => Q .non H', rt := Q } (L2.start N_need_waits vs) H := body_F fun ds P m c => by
  obtain ⟨k, x, ws, rfl, hx, ok, rfl⟩ := c
  show DS K _ [.val (.int k), .val x, .no, .no] m _
  unfold t_need_waits
  refine s_seq (es_if (b := false) ((e_not (e_truB (isi_LT (f_var rfl).r (seq_pl hx)))).cast (by rw [seq_isLT hx]; rfl)) (fun h => nomatch h) fun _ => s_next ?_)
  refine s_seq (es_setW (ew_lst a_nil) ?_)
  refine s_for (n := 0) (PL := (· = ws.map .int)) (fun ds i Γ m' => m' = m ∧ ∃ t, Γ = [.val (.int k), .val x, .ow (.lst ((ws.take i).map .int)), t]) (i_seq (f_var rfl) hx) (fun ds e => ⟨rfl, .no, rfl⟩) ?_ ?_
  · rintro ds i d Γ' m' e hd ⟨rfl, t, rfl⟩
    subst e
    rw [List.getElem?_map] at hd
    cases q : ws[i]? with
    | none => rw [q] at hd; cases hd
    | some v =>
      rw [q] at hd; cases hd
      have hil := (List.getElem?_eq_some_iff.mp q).1
      obtain ⟨h0, h1⟩ := ok.ok v (List.mem_of_getElem? q)
      refine ⟨_, _, g_name, s_seq (es_if (b := false) ((e_or (e_not (e_truB (isi_I (f_var rfl).r (.int _)))) fun _ => e_or (e_truB (isi_B (f_var rfl).r (.int _))) fun _ => e_or (e_not (e_test (e_chain ok_le ok_lt c_int.r (f_var rfl).r (e_op ok_sub (f_var rfl).r c_int.r rfl).r rfl rfl))) fun _ => e_test (e_opB ok_in (f_var rfl).r (r_var rfl) (by rw [(inF_ints _ _).1]; rfl))).cast ?_) (fun h => nomatch h) fun _ => s_next ?_)⟩
      · rw [(inF_ints _ _).1, decide_eq_true h0, decide_eq_true h1]
        show decide (v ∈ ws.take i) = false
        rw [decide_eq_false]
        intro hm
        obtain ⟨j, hj, ej⟩ := List.getElem_of_mem hm
        have hj' : j < i := by rw [List.length_take] at hj; omega
        have e1 : ws[j]? = some v := by rw [← ej, List.getElem_take]; exact List.getElem?_eq_getElem _
        have := nd_ix ok.nd e1 q
        omega
      · refine es_app rfl ?_ (f_var rfl) ⟨rfl, .val (.int v), ?_⟩
        · rw [List.length_map, List.length_take]; have := ok.le; omega
        · show [_, _, Sl.ow (.lst ((ws.take i).map D.int ++ [.int v])), _] = _
          rw [take_succ q, List.map_append]; rfl
  · rintro ds Γ' m' e ⟨rfl, t, rfl⟩
    exact ⟨Nat.le_refl _, rfl⟩
end
end DL
set_option Elab.async false
set_option linter.all false
set_option maxRecDepth 100000
set_option maxHeartbeats 2000000
/-! Ke: plans made and asked. -/
namespace DL
open PySem L2
def numsFrom : Nat → List (List Str) → List (Key × D)
  | _, [] => []
  | i, r :: rs => (r.map fun s => ((.inr s : Key), (.int (i : Nat) : D))) ++ numsFrom (i + 1) rs
def planF (rows : List (List Str)) (ws : List Int) : List (Str × D) := putFD "numbers" (.dK (numsFrom 0 rows)) (putFD "pauses" (.tup (ws.map .int)) (putFD "rows" (.tup (rows.map strsT)) []))
def planD (a : Ad) (rows : List (List Str)) (ws : List Int) : D := .ins a.Plan (planF rows ws)
def stepOf : List (List Str) → Str → Option Nat
  | [], _ => none
  | r :: rs, s => if s ∈ r then some 0 else (stepOf rs s).map (· + 1)
section
variable [Wld] {K : PySem.W.Frag} {a : Ad} {m n : Nat} {Γ : Gm} {te ta tb : TE} {d x y : D}
theorem plan_rows (rows : List (List Str)) (ws : List Int) : (planF rows ws).lookup ("rows" : Str) = some (.tup (rows.map strsT)) := by
  unfold planF; rw [lookup_putFD, if_neg (by decide +kernel), lookup_putFD, if_neg (by decide +kernel), lookup_putFD, if_pos rfl]
theorem plan_pauses (rows : List (List Str)) (ws : List Int) : (planF rows ws).lookup ("pauses" : Str) = some (.tup (ws.map .int)) := by
  unfold planF; rw [lookup_putFD, if_neg (by decide +kernel), lookup_putFD, if_pos rfl]
theorem plan_numbers (rows : List (List Str)) (ws : List Int) : (planF rows ws).lookup ("numbers" : Str) = some (.dK (numsFrom 0 rows)) := by
  unfold planF; rw [lookup_putFD, if_pos rfl]
theorem valD_app {l r : List (Key × D)} {k : Key} : valD (l ++ r) k = (valD l k).or (valD r k) := by
  induction l with
  | nil => rfl
  | cons p l ih =>
    rw [List.cons_append, valD_cons, valD_cons, ih]
    by_cases h : p.1 = k
    · rw [if_pos h, if_pos h]; rfl
    · rw [if_neg h, if_neg h]
theorem valD_none {α : Type} {kf : α → Key} {f : α → D} {k : Key} : ∀ {l : List α}, (∀ y ∈ l, kf y ≠ k) → valD (l.map fun y => (kf y, f y)) k = none
  | [], _ => rfl
  | y :: l, h => by rw [List.map_cons, valD_cons, if_neg (h y (List.mem_cons_self ..))]; exact valD_none fun z hz => h z (List.mem_cons_of_mem _ hz)
theorem val_nums (s : Str) : ∀ (rows : List (List Str)) (i : Nat), valD (numsFrom i rows) (.inr s) = (stepOf rows s).map fun k => .int ((i + k : Nat) : Int)
  | [], _ => rfl
  | r :: rs, i => by
    unfold numsFrom stepOf
    rw [valD_app]
    by_cases h : s ∈ r
    · rw [if_pos h, valD_map (kf := fun s : Str => (.inr s : Key)) (f := fun _ => .int (i : Nat)) (fun _ _ _ => rfl) h]; rfl
    · rw [if_neg h, valD_none (kf := fun s : Str => (.inr s : Key)) (f := fun _ => .int (i : Nat)) (fun y hy e => h (by cases e; exact hy)), val_nums s rs (i + 1)]
      cases stepOf rs s with
      | none => rfl
      | some k =>
        show some (D.int ((i + 1 + k : Nat) : Int)) = some (D.int ((i + (k + 1) : Nat) : Int))
        rw [show i + 1 + k = i + (k + 1) by omega]
theorem nums_snoc : ∀ (rows : List (List Str)) (i : Nat) (r : List Str), numsFrom i (rows ++ [r]) = numsFrom i rows ++ r.map fun s => ((.inr s : Key), (.int ((i + rows.length : Nat) : Int) : D))
  | [], i, r => by show (r.map _) ++ [] = _; rw [List.append_nil]; rfl
  | q :: rs, i, r => by
    rw [List.cons_append]
    show _ ++ numsFrom (i + 1) (rs ++ [r]) = (_ ++ numsFrom (i + 1) rs) ++ _
    rw [nums_snoc rs (i + 1) r, List.append_assoc, List.length_cons, show i + 1 + rs.length = i + (rs.length + 1) by omega]
theorem nums_keys : ∀ (rows : List (List Str)) (i : Nat), (numsFrom i rows).map (·.1) = rows.flatten.map .inr
  | [], _ => rfl
  | r :: rs, i => by unfold numsFrom; rw [List.map_append, nums_keys rs, List.flatten_cons, List.map_append, List.map_map]; rfl
theorem flat_perm : ∀ rs : List (List Str), ((rs.map sortS).flatten).Perm rs.flatten
  | [] => .nil
  | r :: rs => by rw [List.map_cons, List.flatten_cons, List.flatten_cons]; exact (sortS_perm r).append (flat_perm rs)
theorem RowOk.sort {rs : List (List Str)} (ok : RowOk rs) : RowOk (rs.map sortS) := by
  refine ⟨fun s hs => ok.ok s ((flat_perm rs).mem_iff.mp hs), (flat_perm rs).nodup_iff.mpr ok.nd, fun r hr => ?_, by rw [(flat_perm rs).length_eq]; exact ok.le⟩
  obtain ⟨q, hq, rfl⟩ := List.mem_map.mp hr
  intro e
  have := sortS_len q
  rw [e] at this
  exact ok.ne q hq (List.length_eq_zero_iff.mp this.symm)
def strO : D → Option Str
  | .str s => some s
  | _ => none
theorem strO_map (l : List Str) : (l.map D.str).filterMap strO = l := by
  induction l with
  | nil => rfl
  | cons x l ih => rw [List.map_cons, List.filterMap_cons]; show x :: _ = _; rw [ih]
def rowF (d : D) : D := match isSeq d with
  | some ds => strsT (sortS (ds.filterMap strO))
  | none => .non
theorem rowF_of {d : D} {r : List Str} (h : isSeq d = some (r.map .str)) : rowF d = strsT (sortS r) := by
  unfold rowF; rw [h]; dsimp only; rw [strO_map]
theorem rows_map : ∀ {xs : List D} {rs : List (List Str)}, RowsAre xs rs → xs.map rowF = (rs.map sortS).map strsT
  | _, _, .nil => rfl
  | _, _, .cons h r => by rw [List.map_cons, List.map_cons, List.map_cons, rowF_of h, rows_map r]
def insD : D → List D
  | .tup [_, .tup l] => l
  | _ => []
def N_Plan___init__ : List Str := ["self", "steps", "waits", "step", "name", "wait", "number", "row"]
def t_Plan___init__ [Wld] (K : PySem.W.Frag) (a : Ad) : TS := (tSeq (tDrop (tCall (sp_need_steps K a) [] E0 (tCons (tVar 1) tNil))) (tSeq (tDrop (tCall (sp_need_waits K a) [] E0 (tCons (tCB (rLenX K) (tCons (tVar 1) tNil)) (tCons (tVar 2) tNil)))) (tSeq (sFld K (tVar 0) (tCB (rTupX K) (tCons (tLc (iSeq K (tVar 1)) (gName 3) tYes (tCB (rTupX K) (tCons (tCB (rSortX K) (tCons (tLc (iSeq K (tVar 3)) (gName 4) tYes (tCB (rStrX) (tCons (tVar 4) tNil)) [4]) tNil)) tNil)) [3]) tNil)) "rows") (tSeq (sFld K (tVar 0) (tCB (rTupX K) (tCons (tCB (rSortX K) (tCons (tLc (iSeq K (tVar 2)) (gName 5) tYes (tCB (rIntX) (tCons (tVar 5) tNil)) [5]) tNil)) tNil)) "pauses") (sFld K (tVar 0) (tDc2 (iEnumS K (tCons (tFld K (tVar 0) "rows") tNil)) (gTup K 2 (gCons (gName 6) (gCons (gName 7) gNil))) (iSeq K (tVar 7)) (gName 4) (tVar 4) (tVar 6) [6, 7, 4] [4]) "numbers")))))
def C_Plan_init (a : Ad) : Ct := fun ds P => ∃ x xs rs w ws, ds = [x, w] ∧ isSeq x = some xs ∧ RowsAre xs rs ∧ RowOk rs ∧ isSeq w = some (ws.map .int) ∧ WaitOk rs.length ws ∧ P = (· = planD a (rs.map sortS) (sortI ws))
abbrev sp_Plan___init__ (K : PySem.W.Frag) (a : Ad) : Sp := spI K a.Plan 0 (C_Plan_init a)
theorem enum_at {ds : List D} {i : Nat} {d : D} (h : (enumD ds)[i]? = some d) : ∃ x, ds[i]? = some x ∧ d = .tup [.int (i : Nat), x] := by
  have hi := (List.getElem?_eq_some_iff.mp h).1
  rw [enumD_len] at hi
  have e := enumD_get (List.getElem?_eq_getElem hi)
  rw [e] at h
  exact ⟨_, List.getElem?_eq_getElem hi, (Option.some.inj h).symm⟩
theorem bd_Plan___init__ (T : Tc K a) : ∀ {vs H Q E}, sp_Plan___init__ K a vs H Q E → t_Plan___init__ K a { nx := fun _ H' => Q .non H', rt := Q } (L2.start N_Plan___init__ vs) H := body_I fun o ds P m c => by
  obtain ⟨x, xs, rs, w, ws, rfl, hx, hr, ok, hw, wk, rfl⟩ := c
  show DS K _ [.ow (.ins a.Plan []) (· = o), .val x, .val w, .no, .no, .no, .no, .no] m _
  unfold t_Plan___init__
  have hxl : xs.length ≤ 60 := by rw [hr.length]; exact ok.len
  refine s_seq (s_drop (n := 0) (e_call (ea_cons (f_var rfl) a_nil) ⟨x, xs, rs, rfl, hx, hr, ok, rfl⟩) fun _ _ => ?_)
  refine s_seq (s_drop (n := 0) (e_call (ea_cons (e_cb ok_len (f_var rfl).r (seq_len hx)) (ea_cons (f_var rfl) a_nil)) ⟨rs.length, w, ws, by rw [hr.length], hw, wk, rfl⟩) fun _ _ => ?_)
  refine s_seq (es_fld T.c_Plan T.n_rows rfl (by decide) (d := .tup ((rs.map sortS).map strsT)) (e_cb ok_tup ((ew_map (is := [3]) (vs := [3]) (ds := xs) (f := rowF) (i_seq (f_var rfl) hx) (by omega) (by simp) fun i d hd => ?_).cast (d' := .lst ((rs.map sortS).map strsT)) ?_).f.r rfl) ?_)
  · obtain ⟨r, hri, hd2⟩ := hr.get hd
    have rl := row_len ok hri
    refine ⟨_, g_name, (e_cb ok_tup (ew_sorted (ss := r) ((ew_map (is := [4]) (vs := [4]) (ds := r.map .str) (f := id) (i_seq (f_var (d := d) rfl) hd2) (by rw [List.length_map]; omega) (by simp) fun j e he => ⟨_, g_name, ?_⟩).cast (by rw [List.map_id])).f.r (by omega)).f.r rfl).cast (rowF_of hd2).symm⟩
    rw [List.getElem?_map] at he
    cases q : r[j]? with
    | none => rw [q] at he; cases he
    | some nm => rw [q] at he; cases he; exact e_cb ok_str (f_var rfl).r rfl
  · rw [rows_map hr]
  refine s_seq (es_fld T.c_Plan T.n_pauses rfl (Nat.lt_of_le_of_lt (len_putFD _ _ _) (by decide)) (d := .tup ((sortI ws).map .int)) (e_cb ok_tup (ew_sortedI (ss := ws) ((ew_map (is := [5]) (vs := [5]) (ds := ws.map .int) (f := id) (i_seq (f_var rfl) hw) (by rw [List.length_map]; have := wk.le; omega) (by simp) fun i d hd => ⟨_, g_name, ?_⟩).cast (by rw [List.map_id])).f.r (by have := wk.le; omega)).f.r rfl) ?_)
  · rw [List.getElem?_map] at hd
    cases q : ws[i]? with
    | none => rw [q] at hd; cases hd
    | some v => rw [q] at hd; cases hd; exact e_cb ok_int (f_var rfl).r rfl
  have ok2 := ok.sort
  generalize hR : rs.map sortS = R at ok2
  have lk : (putFD "pauses" (.tup ((sortI ws).map .int)) (putFD "rows" (.tup (R.map strsT)) [])).lookup ("rows" : Str) = some (.tup (R.map strsT)) := by
    rw [lookup_putFD, if_neg (by decide +kernel), lookup_putFD, if_pos rfl]
  refine es_fld T.c_Plan T.n_numbers rfl (Nat.lt_of_le_of_lt (len_putFD _ _ _) (Nat.lt_of_le_of_lt (Nat.succ_le_succ (len_putFD _ _ _)) (by decide))) (d := .dK (numsFrom 0 R)) ((w_dc2 (P := (· = .dK (numsFrom 0 R))) (is := [6, 7]) (ds := enumD (R.map strsT)) (fun i j acc => acc = numsFrom 0 (R.take i) ++ (((R[i]?).getD []).take j).map fun s => ((.inr s : Key), (.int (i : Nat) : D))) insD (i_enum (e_fld T.c_Plan T.n_rows (r_var rfl) lk) rfl) ?_ ?_ (by simp) rfl ?_ ?_)).f ⟨Nat.le_refl _, _, rfl, rfl⟩
  · rw [enumD_len, List.length_map]; have := ok2.len; omega
  · intro d hd
    obtain ⟨i, hi, ei⟩ := List.getElem_of_mem hd
    obtain ⟨x, hx, rfl⟩ := enum_at (ei ▸ List.getElem?_eq_getElem hi)
    rw [List.getElem?_map] at hx
    cases q : R[i]? with
    | none => rw [q] at hx; cases hx
    | some r =>
      rw [q] at hx; cases hx
      show (r.map D.str).length ≤ 1000
      rw [List.length_map]; have := row_len ok2 q; omega
  · intro i d hd
    obtain ⟨x, hx, rfl⟩ := enum_at hd
    rw [List.getElem?_map] at hx
    cases q : R[i]? with
    | none => rw [q] at hx; cases hx
    | some r =>
      rw [q] at hx; cases hx
      refine ⟨_, g_tup (gs_cons g_name (gs_cons g_name gs_nil)), i_seq (f_var rfl) rfl, fun j e acc he hacc => ?_, fun acc hacc => ?_⟩
      · have he : (r.map D.str)[j]? = some e := he
        rw [List.getElem?_map] at he
        cases q2 : r[j]? with
        | none => rw [q2] at he; cases he
        | some nm =>
          rw [q2] at he; cases he
          refine ⟨[4], _, by simp, g_name, .inr nm, .int (i : Nat), (f_var (d := .str nm) rfl).imp fun e he => by rw [he]; rfl, f_var rfl, ?_⟩
          rw [hacc]
          show putD (numsFrom 0 (R.take i) ++ (r.take j).map _) (.inr nm) _ = numsFrom 0 (R.take i) ++ (r.take (j + 1)).map _
          rw [putD_new, take_succ q2, List.map_append, List.append_assoc]
          · rfl
          · rw [List.map_append, nums_keys, List.map_map]
            intro hm
            refine fresh_at ok2 q q2 ?_
            rcases List.mem_append.mp hm with hm | hm
            · obtain ⟨z, hz, ez⟩ := List.mem_map.mp hm
              cases ez; exact List.mem_append_left _ hz
            · obtain ⟨z, hz, ez⟩ := List.mem_map.mp hm
              cases ez; exact List.mem_append_right _ hz
      · have hil := (List.getElem?_eq_some_iff.mp q).1
        rw [hacc]
        show numsFrom 0 (R.take i) ++ (r.take (r.map D.str).length).map _ = numsFrom 0 (R.take (i + 1)) ++ ((((R[i + 1]?).getD []).take 0).map _)
        rw [List.take_zero, List.map_nil, List.append_nil, take_succ q, nums_snoc, List.length_map, List.take_length, List.length_take, Nat.min_eq_left (Nat.le_of_lt hil), Nat.zero_add]
  · intro acc hacc
    rw [hacc, enumD_len, List.length_map, List.take_length, List.take_zero, List.map_nil, List.append_nil]
end
end DL
set_option Elab.async false
set_option linter.all false
set_option maxRecDepth 100000
set_option maxHeartbeats 2000000
/-! Kf: words of walks, doubled nodes, what is asked of arguments. -/
namespace DL
open PySem L2
section
variable [Wld] {K : PySem.W.Frag} {a : Ad} {m n : Nat} {Γ : Gm} {te ta tb : TE} {d x y : D}
def N_Plan_step_of : List Str := ["self", "node"]
def t_Plan_step_of [Wld] (K : PySem.W.Frag) (a : Ad) : TS := (tRet (tIf (tAnd (tTru K (tCB (rIsiX K) (tCons (tVar 1) (tCons (tC (.ty "str")) tNil)))) (tTest (tOp (rInX K) (tVar 1) (tFld K (tVar 0) "numbers")))) (tOp (rIxX K) (tFld K (tVar 0) "numbers") (tVar 1)) (tC .non)))
def C_Plan_step_of (a : Ad) : Ct := fun ds P => ∃ rows ws s, ds = [planD a rows ws, .str s] ∧ P = (· = match stepOf rows s with | some k => .int (k : Nat) | none => .non)
abbrev sp_Plan_step_of (K : PySem.W.Frag) (a : Ad) : Sp := spF K 0 (C_Plan_step_of a)
theorem bd_Plan_step_of (T : Tc K a) : ∀ {vs H Q E}, sp_Plan_step_of K a vs H Q E → t_Plan_step_of K a { nx := fun _ H' => Q .non H', rt := Q } (L2.start N_Plan_step_of vs) H := body_F fun ds P m c => by
  obtain ⟨rows, ws, s, rfl, rfl⟩ := c
  have hv := val_nums s rows 0
  have hn : DF K (tFld K (tVar 0) "numbers") [.val (planD a rows ws), .val (.str s)] 0 (· = .dK (numsFrom 0 rows)) := e_fld T.c_Plan T.n_numbers (f_var rfl).r (plan_numbers rows ws)
  cases q : stepOf rows s with
  | none =>
    refine es_ret (e_if (b := false) (x := .non) ((e_and (e_truB (isi_S (f_var rfl).r (.str _))) fun _ => e_test (e_opB ok_in (f_var rfl).r hn.r rfl)).cast ?_) (fun h => nomatch h) fun _ => c_non) ⟨Nat.le_refl _, rfl⟩
    show (true && (valD (numsFrom 0 rows) (.inr s)).isSome) = false
    rw [hv, q]; rfl
  | some k =>
    refine es_ret (e_if (b := true) (y := .non) ((e_and (e_truB (isi_S (f_var rfl).r (.str _))) fun _ => e_test (e_opB ok_in (f_var rfl).r hn.r rfl)).cast ?_) (fun _ => e_op ok_ix hn.r (f_var rfl).r (ix_dK (d := .int (k : Nat)) ?_)) (fun h => nomatch h)) ⟨Nat.le_refl _, rfl⟩
    · show (true && (valD (numsFrom 0 rows) (.inr s)).isSome) = true
      rw [hv, q]; rfl
    · rw [hv, q]; show some (D.int ((0 + k : Nat) : Int)) = _; rw [Nat.zero_add]
def N_whole_plan : List Str := ["update"]
def t_whole_plan [Wld] (K : PySem.W.Frag) (a : Ad) : TS := (tRet (tMake a.Plan (sp_Plan___init__ K a) [.ref a.noWaits] E0 (tCons (tLst (tCons (tCB (rListX K) (tCons (tProp a.Network (sp_Network_nodes K a) [] E0 (tProp a.Update (sp_Update_network K a) [] E0 (tVar 0))) tNil)) tNil)) tNil)))
def C_whole_plan (a : Ad) : Ct := fun ds P => ∃ u, ds = [updD a u] ∧ NetOk u.ns u.es ∧ P = (· = planD a [sortS u.ns] [])
abbrev sp_whole_plan (K : PySem.W.Frag) (a : Ad) : Sp := spF K 0 (C_whole_plan a)
theorem is_noWaits (T : Tc K a) (B : Kn) : IsL K B [.ref a.noWaits] [.tup []] := .cons (.tup (.inr T.nw) .nil) .nil
theorem NetOk.row {ns es : List Str} (ok : NetOk ns es) : RowOk [ns] := by
  have e : [ns].flatten = ns := by simp
  refine ⟨fun s hs => ok.ok s (List.mem_append_left _ (by rw [e] at hs; exact hs)), by rw [e]; exact (List.nodup_append.mp ok.nd).1, fun r hr => ?_, by rw [e]; have := ok.n8; omega⟩
  rw [List.mem_singleton.mp hr]
  intro h
  have := ok.n1
  rw [h] at this
  exact absurd this (by decide)
theorem sortI_nil : sortI [] = [] := by simp [sortI]
theorem bd_whole_plan (T : Tc K a) : ∀ {vs H Q E}, sp_whole_plan K a vs H Q E → t_whole_plan K a { nx := fun _ H' => Q .non H', rt := Q } (L2.start N_whole_plan vs) H := body_F fun ds P m c => by
  obtain ⟨u, rfl, ok, rfl⟩ := c
  have hn : DF K (tProp a.Network (sp_Network_nodes K a) [] E0 (tProp a.Update (sp_Update_network K a) [] E0 (tVar 0))) [.val (updD a u)] 0 (· = strsT u.ns) := e_prop (e_prop (f_var rfl) ⟨u, rfl, rfl⟩) ⟨u.ns, u.es, rfl, rfl⟩
  have h := w_make (K := K) (n := 0) (n1 := 0) (C := C_Plan_init a) (A := a.Plan) (E := E0) (dvs := [.ref a.noWaits]) (dds := [.tup []]) (P := (· = planD a [sortS u.ns] [])) (Γ := [.val (updD a u)]) (PA := (· = [.lst [strsL u.ns]]))
    (ea_cons (ew_lst (ds := [strsL u.ns]) (ea_cons (ew_cb ok_list hn.r rfl).f a_nil) (by show 1 ≤ 1000; omega)).f a_nil) (is_noWaits T) (fun ds e => by
      subst e
      exact ⟨.lst [strsL u.ns], [strsL u.ns], [u.ns], .tup [], [], rfl, rfl, .cons rfl .nil, ok.row, rfl, ⟨List.nodup_nil, fun v h => (nomatch h), by decide⟩, by rw [sortI_nil]; rfl⟩)
  exact s_ret h.f fun d e => ⟨Nat.le_refl _, e⟩
/-! ### words -/
def wordS (o n h : Option Str) : Str := if h = o then (if h = n then "same" else "old") else (if h = n then "new" else "none")
def newHop (u : Up) (l : Str) (rows : List (List Str)) (s : Str) : Option Str := if (stepOf rows s).isNone = true then u.o l s else u.n l s
def N_word_of : List Str := ["update", "flow", "plan", "node", "hop", "old", "new"]
def t_word_of [Wld] (K : PySem.W.Frag) (a : Ad) : TS := (tSeq (tAsg (tOp (fun x y H Q => rIxX K x y H Q ∨ rIxO a.Table (sp_Table___getitem__ K a) x y H Q) (tMeth a.Update "old" (sp_Update_old K a) [] E0 (tVar 0) (tCons (tVar 1) tNil)) (tVar 3)) (gName 5)) (tSeq (tAsg (tIf (tTest (tOp (L2.rIsN) (tMeth a.Plan "step_of" (sp_Plan_step_of K a) [] E0 (tVar 2) (tCons (tVar 3) tNil)) (tC .non))) (tVar 5) (tOp (fun x y H Q => rIxX K x y H Q ∨ rIxO a.Table (sp_Table___getitem__ K a) x y H Q) (tMeth a.Update "new" (sp_Update_new K a) [] E0 (tVar 0) (tCons (tVar 1) tNil)) (tVar 3))) (gName 6)) (tSeq (tIfS (tTest (tOp (rEqP K) (tVar 4) (tVar 5))) (tRet (tIf (tTest (tOp (rEqP K) (tVar 4) (tVar 6))) (tC (.str "same")) (tC (.str "old")))) tNext) (tRet (tIf (tTest (tOp (rEqP K) (tVar 4) (tVar 6))) (tC (.str "new")) (tC (.str "none")))))))
def C_word_of (a : Ad) : Ct := fun ds P => ∃ u l rows ws s h, ds = [updD a u, .str l, planD a rows ws, .str s, hopD h] ∧ l ∈ u.fl ∧ s ∈ u.ns ∧ P = (· = .str (wordS (u.o l s) (newHop u l rows s) h))
abbrev sp_word_of (K : PySem.W.Frag) (a : Ad) : Sp := spF K 0 (C_word_of a)
theorem plan_nolk (rows : List (List Str)) (ws : List Int) {f : Str} (h1 : ¬ f = "numbers") (h2 : ¬ f = "pauses") (h3 : ¬ f = "rows") : (planF rows ws).lookup f = none := by
  unfold planF; rw [lookup_putFD, if_neg h1, lookup_putFD, if_neg h2, lookup_putFD, if_neg h3]; rfl
theorem upd_nolk (u : Up) {f : Str} (h1 : ¬ f = "pairs") (h2 : ¬ f = "own_network") : (updF a u).lookup f = none := by
  unfold updF; rw [lookup_putFD, if_neg h1, lookup_putFD, if_neg h2]; rfl
theorem e_old {u : Up} {l : Str} (hl : l ∈ u.fl) (h1 : DF K ta Γ 0 (· = updD a u)) (h2 : DF K tb Γ 0 (· = .str l)) : DF K (tMeth a.Update "old" (sp_Update_old K a) [] E0 ta (tCons tb tNil)) Γ 0 (· = tabD a u.ns u.es (u.o l)) :=
  e_meth h1 (ea_cons h2 a_nil) (upd_nolk u (by decide +kernel) (by decide +kernel)) ⟨u, l, rfl, hl, rfl⟩
theorem e_new {u : Up} {l : Str} (hl : l ∈ u.fl) (h1 : DF K ta Γ 0 (· = updD a u)) (h2 : DF K tb Γ 0 (· = .str l)) : DF K (tMeth a.Update "new" (sp_Update_new K a) [] E0 ta (tCons tb tNil)) Γ 0 (· = tabD a u.ns u.es (u.n l)) :=
  e_meth h1 (ea_cons h2 a_nil) (upd_nolk u (by decide +kernel) (by decide +kernel)) ⟨u, l, rfl, hl, rfl⟩
theorem e_tab {ns es : List Str} {f : Str → Option Str} {s : Str} (hs : s ∈ ns) (h1 : DF K ta Γ 0 (· = tabD a ns es f)) (h2 : DF K tb Γ 0 (· = .str s)) : DF K (tOp (fun x y H Q => rIxX K x y H Q ∨ rIxO a.Table (sp_Table___getitem__ K a) x y H Q) ta tb) Γ 0 (· = hopD (f s)) :=
  e_ixO h1 h2 ⟨ns, es, f, s, rfl, hs, rfl⟩
theorem bd_word_of (T : Tc K a) : ∀ {vs H Q E}, sp_word_of K a vs H Q E → t_word_of K a { nx := fun _ H' => Q .non H', rt := Q } (L2.start N_word_of vs) H := body_F fun ds P m c => by
  obtain ⟨u, l, rows, ws, s, h, rfl, hl, hs, rfl⟩ := c
  show DS K _ [.val (updD a u), .val (.str l), .val (planD a rows ws), .val (.str s), .val (hopD h), .no, .no] m _
  unfold t_word_of
  refine s_seq (es_set (e_tab hs (e_old hl (f_var rfl) (f_var rfl)) (f_var rfl)) ?_)
  refine s_seq (es_set (d := hopD (newHop u l rows s)) ((e_if (b := (stepOf rows s).isNone) (x := hopD (u.o l s)) (y := hopD (u.n l s)) ((e_test (e_op ok_isN (e_meth (f_var rfl) (ea_cons (f_var rfl) a_nil) (plan_nolk rows ws (by decide +kernel) (by decide +kernel) (by decide +kernel)) ⟨rows, ws, s, rfl, rfl⟩).r c_non.r (z := .bl (stepOf rows s).isNone) ?_))) (fun _ => f_var rfl) fun _ => e_tab hs (e_new hl (f_var rfl) (f_var rfl)) (f_var rfl)).cast ?_) ?_)
  · cases stepOf rows s <;> rfl
  · unfold newHop; split <;> rfl
  · refine s_seq (es_if (b := decide (h = u.o l s)) (e_test (e_op ok_eq (f_var rfl).r (f_var rfl).r (by rw [eqF_hop]; rfl))) (fun e => ?_) fun e => s_next ?_)
    · refine es_ret ((e_if (e_test (e_op ok_eq (f_var rfl).r (f_var rfl).r (by rw [eqF_hop]; rfl))) (fun _ => c_str) fun _ => c_str).cast ?_) ⟨Nat.le_refl _, rfl⟩
      unfold wordS
      rw [if_pos (of_decide_eq_true e)]
      by_cases q : h = newHop u l rows s
      · rw [decide_eq_true q, if_pos rfl, if_pos q]
      · rw [decide_eq_false q, if_neg Bool.false_ne_true, if_neg q]
    · refine es_ret ((e_if (e_test (e_op ok_eq (f_var rfl).r (f_var rfl).r (by rw [eqF_hop]; rfl))) (fun _ => c_str) fun _ => c_str).cast ?_) ⟨Nat.le_refl _, rfl⟩
      unfold wordS
      rw [if_neg (of_decide_eq_false e)]
      by_cases q : h = newHop u l rows s
      · rw [decide_eq_true q, if_pos rfl, if_pos q]
      · rw [decide_eq_false q, if_neg Bool.false_ne_true, if_neg q]
/-! ### walks -/
structure WalkOk (ns es : List Str) (w : List (Option Str)) : Prop where
  le : w.length ≤ 400
  first : ∃ s t, w = some s :: t ∧ s ∈ ns
  mid : ∀ h ∈ w.dropLast, ∃ s, h = some s ∧ s ∈ ns
  last : ∀ h, w.getLast? = some h → isHop ns es (hopD h) = true
def walkD (w : List (Option Str)) : D := .tup (w.map hopD)
def wordAt (u : Up) (l : Str) (rows : List (List Str)) (x h : Option Str) : Str := match x with
  | some s => wordS (u.o l s) (newHop u l rows s) h
  | none => "none"
def wordsOf (u : Up) (l : Str) (rows : List (List Str)) (w : List (Option Str)) : List Str := List.zipWith (wordAt u l rows) w (w.drop 1)
def hopO : D → Option Str
  | .str s => some s
  | _ => none
theorem hopO_hop (h : Option Str) : hopO (hopD h) = h := by cases h <;> rfl
def wordF (u : Up) (l : Str) (rows : List (List Str)) : D → D
  | .tup [x, h] => .str (wordAt u l rows (hopO x) (hopO h))
  | _ => .non
theorem zip_at {xs ys : List D} {i : Nat} {d : D} (h : (zipD xs ys)[i]? = some d) : ∃ x y, xs[i]? = some x ∧ ys[i]? = some y ∧ d = .tup [x, y] := by
  unfold zipD at h
  rw [List.getElem?_zipWith] at h
  cases h1 : xs[i]? with
  | none => rw [h1] at h; cases h
  | some x =>
    cases h2 : ys[i]? with
    | none => rw [h1, h2] at h; cases h
    | some y => rw [h1, h2] at h; exact ⟨x, y, rfl, rfl, (Option.some.inj h).symm⟩
theorem drop_last_get {α : Type} {w : List α} {i : Nat} {x y : α} (h1 : w[i]? = some x) (h2 : (w.drop 1)[i]? = some y) : x ∈ w.dropLast := by
  rw [List.getElem?_drop] at h2
  have := (List.getElem?_eq_some_iff.mp h2).1
  have e : w.dropLast[i]? = some x := by rw [List.dropLast_eq_take, List.getElem?_take, if_pos (by omega)]; exact h1
  exact List.mem_of_getElem? e
def N_seen_words : List Str := ["update", "flow", "plan", "walk", "node", "hop"]
def t_seen_words [Wld] (K : PySem.W.Frag) (a : Ad) : TS := (tRet (tLc (iZipS K (tCons (tVar 3) (tCons (tSl (rSlX K) (tVar 3) (tPart (tC (.int 1))) tNoPart) tNil))) (gTup K 2 (gCons (gName 4) (gCons (gName 5) gNil))) tYes (tCall (sp_word_of K a) [] E0 (tCons (tVar 0) (tCons (tVar 1) (tCons (tVar 2) (tCons (tVar 4) (tCons (tVar 5) tNil)))))) [4, 5]))
def C_seen_words (a : Ad) : Ct := fun ds P => ∃ u l rows ws w, ds = [updD a u, .str l, planD a rows ws, walkD w] ∧ l ∈ u.fl ∧ WalkOk u.ns u.es w ∧ P = (· = strsL (wordsOf u l rows w))
abbrev sp_seen_words (K : PySem.W.Frag) (a : Ad) : Sp := spF K 0 (C_seen_words a)
theorem words_map (u : Up) (l : Str) (rows : List (List Str)) (w v : List (Option Str)) : (zipD (w.map hopD) (v.map hopD)).map (wordF u l rows) = (List.zipWith (wordAt u l rows) w v).map .str := by
  induction w generalizing v with
  | nil => rfl
  | cons x w ih =>
    cases v with
    | nil => rfl
    | cons h v =>
      show wordF u l rows (.tup [hopD x, hopD h]) :: (zipD (w.map hopD) (v.map hopD)).map (wordF u l rows) = _
      rw [ih]
      show D.str (wordAt u l rows (hopO (hopD x)) (hopO (hopD h))) :: _ = _
      rw [hopO_hop, hopO_hop]; rfl
theorem cut_one (w : List (Option Str)) (h : 1 ≤ w.length) : cutD (w.map hopD) (some 1) none = (w.drop 1).map hopD := by
  rw [show (1 : Int) = ((1 : Nat) : Int) from rfl, cut_from (by rw [List.length_map]; exact h), List.map_drop]
theorem WalkOk.ge {ns es : List Str} {w : List (Option Str)} (ok : WalkOk ns es w) : 1 ≤ w.length := by
  obtain ⟨s, t, rfl, _⟩ := ok.first; rw [List.length_cons]; omega
theorem bd_seen_words (T : Tc K a) : ∀ {vs H Q E}, sp_seen_words K a vs H Q E → t_seen_words K a { nx := fun _ H' => Q .non H', rt := Q } (L2.start N_seen_words vs) H := body_F fun ds P m c => by
  obtain ⟨u, l, rows, ws, w, rfl, hl, ok, rfl⟩ := c
  show DS K _ [.val (updD a u), .val (.str l), .val (planD a rows ws), .val (walkD w), .no, .no] m _
  unfold t_seen_words
  refine es_ret ((ew_map (is := [4, 5]) (ds := zipD (w.map hopD) (cutD (w.map hopD) (some 1) none)) (f := wordF u l rows) (i_zip (f_var rfl) (e_sl (f_var rfl).r (eo_some c_int) o_none) rfl rfl) ?_ (by simp) fun i d hd => ?_).cast (d' := strsL (wordsOf u l rows w)) ?_).f ⟨Nat.le_refl _, rfl⟩
  · rw [zipD_len, List.length_map]; have := ok.le; omega
  · obtain ⟨x, y, h1, h2, rfl⟩ := zip_at hd
    rw [cut_one w ok.ge] at h2
    rw [List.getElem?_map] at h1 h2
    cases q1 : w[i]? with
    | none => rw [q1] at h1; cases h1
    | some x =>
      cases q2 : (w.drop 1)[i]? with
      | none => rw [q2] at h2; cases h2
      | some h =>
        rw [q1] at h1; rw [q2] at h2; cases h1; cases h2
        obtain ⟨s, rfl, hs⟩ := ok.mid _ (drop_last_get q1 q2)
        refine ⟨_, g_tup (gs_cons g_name (gs_cons g_name gs_nil)), (e_call (n := 0) (ea_cons (f_var rfl) (ea_cons (f_var rfl) (ea_cons (f_var rfl) (ea_cons (f_var (d := .str s) rfl) (ea_cons (f_var rfl) a_nil))))) ⟨u, l, rows, ws, s, h, rfl, hl, hs, rfl⟩).cast ?_⟩
        show D.str _ = .str (wordAt u l rows (hopO (hopD (some s))) (hopO (hopD h)))
        rw [hopO_hop, hopO_hop]; rfl
  · rw [cut_one w ok.ge, words_map]; rfl
end
end DL
set_option Elab.async false
set_option linter.all false
set_option maxRecDepth 100000
set_option maxHeartbeats 2000000
/-! Kg: doubled nodes, memory. -/
namespace DL
open PySem L2
def reSeq : D → List D → D
  | .lst _, l => .lst l
  | _, l => .tup l
structure TwOk (ns tw : List Str) : Prop where
  sub : ∀ s ∈ tw, s ∈ ns
  nd : tw.Nodup
  le : tw.length ≤ 60
abbrev Mem := Str × List Str
def memD (q : Mem) : D := .tup [.str q.1, strsT q.2]
def memOD : Option Mem → D
  | some q => memD q
  | none => .non
def addS (fr : List Str) (s : Str) : List Str := if s ∈ fr then fr else fr ++ [s]
def stampS (tw : List Str) (q : Mem) (word node : Str) : Option Mem :=
  if word = "none" ∨ word = "same" then (if word = "same" then some q else none)
  else if node ∈ tw then (if q.1 = "" ∨ q.1 = word then some (word, q.2) else none)
  else if word = "old" then (if node ∈ q.2 then none else some q)
  else some (q.1, sortS (addS q.2 node))
section
variable [Wld] {K : PySem.W.Frag} {a : Ad} {m n : Nat} {Γ : Gm} {te ta tb : TE} {tl th : TO} {d x y : D}
theorem e_slS {ds : List D} {lo hi : Option Int} (hx : isSeq x = some ds) (ha : DR K te Γ 0 (· = x)) (hl : DO K tl Γ 0 (· = lo)) (hh : DO K th Γ 0 (· = hi)) : DF K (tSl (rSlX K) te tl th) Γ 0 (· = reSeq x (cutD ds lo hi)) := by
  cases x <;> try (cases hx; done)
  · cases hx; exact (ew_sl ha hl hh).f
  · cases hx; exact e_sl ha hl hh
theorem inF_re {l : List Str} {s : Str} [Decidable (s ∈ l)] : inF (.str s) (reSeq x (l.map .str)) = some (decide (s ∈ l)) := by
  cases x <;> first | exact (inF_seq (k := 0) (fun _ => rfl) (fun _ => Nat.le_refl _) (by omega) eqv_str s l).1 | exact (inF_seq (k := 0) (fun _ => rfl) (fun _ => Nat.le_refl _) (by omega) eqv_str s l).2
theorem inF_sq {l : List Str} {s : Str} [Decidable (s ∈ l)] (hx : isSeq x = some (l.map .str)) : inF (.str s) x = some (decide (s ∈ l)) := by
  cases x <;> try (cases hx; done)
  · cases hx; exact (inF_seq (k := 0) (fun _ => rfl) (fun _ => Nat.le_refl _) (by omega) eqv_str s l).1
  · cases hx; exact (inF_seq (k := 0) (fun _ => rfl) (fun _ => Nat.le_refl _) (by omega) eqv_str s l).2
def N_need_doubles : List Str := ["update", "doubles", "at", "node"]
def t_need_doubles [Wld] (K : PySem.W.Frag) (a : Ad) : TS := (tSeq (tIfS (tNot (tTru K (tCB (rIsiX K) (tCons (tVar 1) (tCons (tTup (tCons (tC (.ty "list")) (tCons (tC (.ty "tuple")) tNil))) tNil))))) tNever tNext) (tFor (iEnumS K (tCons (tVar 1) tNil)) (gTup K 2 (gCons (gName 2) (gCons (gName 3) gNil))) (tIfS (tOr (tNot (tTru K (tCall (sp_is_node K a) [] E0 (tCons (tProp a.Update (sp_Update_network K a) [] E0 (tVar 0)) (tCons (tVar 3) tNil))))) (tTest (tOp (rInX K) (tVar 3) (tSl (rSlX K) (tVar 1) tNoPart (tPart (tVar 2)))))) tNever tNext)))
def C_need_doubles (a : Ad) : Ct := fun ds P => ∃ u x tw, ds = [updD a u, x] ∧ isSeq x = some (tw.map .str) ∧ TwOk u.ns tw ∧ P = (· = .non)
abbrev sp_need_doubles (K : PySem.W.Frag) (a : Ad) : Sp := spF K 0 (C_need_doubles a)
theorem bd_need_doubles (T : Tc K a) : ∀ {vs H Q E}, sp_need_doubles K a vs H Q E → t_need_doubles K a { nx := fun _ H' => Q .non H', rt := Q } (L2.start N_need_doubles vs) H := body_F fun ds P m c => by
  obtain ⟨u, x, tw, rfl, hx, ok, rfl⟩ := c
  show DS K _ [.val (updD a u), .val x, .no, .no] m _
  unfold t_need_doubles
  refine s_seq (es_if (b := false) ((e_not (e_truB (isi_LT (f_var rfl).r (seq_pl hx)))).cast (by rw [seq_isLT hx]; rfl)) (fun h => nomatch h) fun _ => s_next ?_)
  refine s_for (n := 0) (PL := (· = enumD (tw.map .str))) (fun ds i Γ m' => m' = m ∧ ∃ s t, Γ = [.val (updD a u), .val x, s, t]) (i_enum (f_var rfl) hx) (fun ds e => ⟨rfl, _, _, rfl⟩) ?_ ?_
  · rintro ds i d Γ' m' e hd ⟨rfl, s, t, rfl⟩
    subst e
    obtain ⟨y, hy, rfl⟩ := enum_at hd
    rw [List.getElem?_map] at hy
    cases q : tw[i]? with
    | none => rw [q] at hy; cases hy
    | some nd =>
      rw [q] at hy; cases hy
      have hil := (List.getElem?_eq_some_iff.mp q).1
      have hnet : DF K (tProp a.Update (sp_Update_network K a) [] E0 (tVar 0)) [.val (updD a u), .val x, .val (.int (i : Nat)), .val (.str nd)] 0 (· = netD a u.ns u.es) := e_prop (f_var rfl) ⟨u, rfl, rfl⟩
      refine ⟨_, _, g_tup (gs_cons g_name (gs_cons g_name gs_nil)), es_if (b := false) ((e_or (e_not (b := true) (e_truB ((e_call (n := 0) (ea_cons hnet (ea_cons (f_var (d := .str nd) rfl) a_nil)) ⟨u.ns, u.es, .str nd, rfl, .str _, rfl⟩).cast ?_))) fun _ => e_test (e_opB ok_in (f_var (d := .str nd) rfl).r (e_slS hx (f_var rfl).r o_none (eo_some (f_var (d := .int (i : Nat)) rfl))).r ?_)).cast ?_) (fun h => nomatch h) fun _ => s_next ⟨rfl, _, _, rfl⟩⟩
      · show D.bl (decide (nd ∈ u.ns)) = _
        rw [decide_eq_true (ok.sub nd (List.mem_of_getElem? q))]
      · rw [cut_to, ← List.map_take, inF_re]; rfl
      · rw [cut_to, ← List.map_take, inF_re]
        show (false || decide (nd ∈ tw.take i)) = false
        rw [decide_eq_false]; rfl
        intro hm
        obtain ⟨j, hj, ej⟩ := List.getElem_of_mem hm
        have hj' : j < i := by rw [List.length_take] at hj; omega
        have e1 : tw[j]? = some nd := by rw [← ej, List.getElem_take]; exact List.getElem?_eq_getElem _
        have := nd_ix ok.nd e1 q
        omega
  · rintro ds Γ' m' e ⟨rfl, s, t, rfl⟩
    exact ⟨Nat.le_refl _, rfl⟩
/-! ### walks asked -/
theorem last_split {α : Type} : ∀ {w : List α} {h : α}, w.getLast? = some h → w.dropLast ++ [h] = w
  | [], _, e => by cases e
  | [x], _, e => by cases e; rfl
  | x :: y :: l, h, e => by
    rw [List.getLast?_cons_cons] at e
    show x :: ((y :: l).dropLast ++ [h]) = _
    rw [last_split e]
theorem DI.castL {wi : TI} {ds ds' : List D} (h : DI K wi Γ n (· = ds)) (e : ds = ds') : DI K wi Γ n (· = ds') := e ▸ h
def N_is_walk : List Str := ["network", "value", "item"]
def t_is_walk [Wld] (K : PySem.W.Frag) (a : Ad) : TS := (tSeq (tIfS (tOr (tNot (tTru K (tCB (rIsiX K) (tCons (tVar 1) (tCons (tC (.ty "tuple")) tNil))))) (tOr (tNot (tTest (tChain (rLe) (rLe) (tC (.int 1)) (tCB (rLenX K) (tCons (tVar 1) tNil)) (tC (.int 400))))) (tNot (tTru K (tCall (sp_is_node K a) [] E0 (tCons (tVar 0) (tCons (tOp (rIxX K) (tVar 1) (tC (.int 0))) tNil))))))) (tRet (tC (.bl false))) tNext) (tSeq (tIfS (tTest (tOp (rNeP K) (tLc (iSeq K (tSl (rSlX K) (tVar 1) tNoPart (tPart (tUn (rU fun i => .int (-i)) (tC (.int 1)))))) (gName 2) (tNot (tTru K (tCall (sp_is_node K a) [] E0 (tCons (tVar 0) (tCons (tVar 2) tNil))))) (tVar 2) [2]) (tLst tNil))) (tRet (tC (.bl false))) tNext) (tRet (tCall (sp_is_hop K a) [] E0 (tCons (tVar 0) (tCons (tOp (rIxX K) (tVar 1) (tUn (rU fun i => .int (-i)) (tC (.int 1)))) tNil))))))
def C_is_walk (a : Ad) : Ct := fun ds P => ∃ ns es w, ds = [netD a ns es, walkD w] ∧ WalkOk ns es w ∧ P = (· = .bl true)
abbrev sp_is_walk (K : PySem.W.Frag) (a : Ad) : Sp := spF K 0 (C_is_walk a)
theorem bd_is_walk (T : Tc K a) : ∀ {vs H Q E}, sp_is_walk K a vs H Q E → t_is_walk K a { nx := fun _ H' => Q .non H', rt := Q } (L2.start N_is_walk vs) H := body_F fun ds P m c => by
  obtain ⟨ns, es, w, rfl, ok, rfl⟩ := c
  show DS K _ [.val (netD a ns es), .val (walkD w), .no] m _
  unfold t_is_walk
  obtain ⟨s0, t0, ew, hs0⟩ := ok.first
  have l1 : lenF (walkD w) = some (.int w.length) := by show some (D.int ((w.map hopD).length : Nat)) = _; rw [List.length_map]
  have g0 : ixF (walkD w) (.int 0) = some (.str s0) := by rw [ew]; exact ix_tup (i := 0) rfl
  have neg1 : DF K (tUn (rU fun i => .int (-i)) (tC (.int 1))) [.val (netD a ns es), .val (walkD w), .no] 0 (· = .int (-1)) := f_neg c_int.r fun x e => ⟨1, e, rfl⟩
  refine s_seq (es_if (b := false) ((e_or (e_not (e_truB (isi_T (f_var rfl).r (.tup _)))) fun _ => e_or (e_not (e_test (e_chain ok_le ok_le c_int.r (e_cb ok_len (f_var rfl).r l1).r c_int.r rfl rfl))) fun _ => e_not (e_truB ((e_call (n := 0) (ea_cons (f_var rfl) (ea_cons (e_op ok_ix (f_var rfl).r c_int.r g0) a_nil)) ⟨ns, es, .str s0, rfl, .str _, rfl⟩)))).cast ?_) (fun h => nomatch h) fun _ => s_next ?_)
  · have h1 := ok.ge
    have h2 := ok.le
    show (!true || (!(decide ((1 : Int) ≤ (w.length : Int)) && decide ((w.length : Int) ≤ 400)) || !decide (s0 ∈ ns))) = false
    rw [decide_eq_true (show (1 : Int) ≤ (w.length : Int) by omega), decide_eq_true (show (w.length : Int) ≤ 400 by omega), decide_eq_true hs0]; rfl
  · refine s_seq (es_if (b := false) (e_test (e_op ok_ne ((ew_lc (is := [2]) (ds := w.dropLast.map hopD) (p := fun _ => false) (f := id) (DI.castL (i_t (e_sl (xs := w.map hopD) (f_var rfl).r o_none (eo_some neg1))) (by rw [cut_last, List.map_dropLast])) ?_ (by simp) (fun i d hd => ?_)).cast (d' := .lst []) ?_).f.r (ew_lst a_nil).f.r (by rfl))) (fun h => nomatch h) fun _ => s_next ?_)
    · rw [List.length_map, List.length_dropLast]; have := ok.le; omega
    · rw [List.getElem?_map] at hd
      cases q : w.dropLast[i]? with
      | none => rw [q] at hd; cases hd
      | some h =>
        rw [q] at hd; cases hd
        obtain ⟨s, rfl, hs⟩ := ok.mid h (List.mem_of_getElem? q)
        refine ⟨_, g_name, (e_not (b := true) (e_truB ((e_call (n := 0) (ea_cons (f_var rfl) (ea_cons (f_var (d := .str s) rfl) a_nil)) ⟨ns, es, .str s, rfl, .str _, rfl⟩).cast ?_))).cast rfl, fun h => nomatch h⟩
        show D.bl (decide (s ∈ ns)) = _
        rw [decide_eq_true hs]
    · rw [filter_none fun _ _ => rfl]; rfl
    · obtain ⟨h, hh⟩ : ∃ h, w.getLast? = some h := by rw [ew]; exact ⟨_, List.getLast?_cons⟩
      have gl : ixF (walkD w) (.int (-1)) = some (hopD h) := by
        show atI (w.map hopD) (-1) = _
        rw [← last_split hh, List.map_append]; exact atI_last _ _
      refine es_ret ((e_call (n := 0) (ea_cons (f_var rfl) (ea_cons (e_op ok_ix (f_var rfl).r neg1.r gl) a_nil)) ⟨ns, es, hopD h, rfl, pl_hop h, rfl⟩).cast ?_) ⟨Nat.le_refl _, rfl⟩
      rw [ok.last h hh]
def N_need_walk : List Str := ["update", "walk"]
def t_need_walk [Wld] (K : PySem.W.Frag) (a : Ad) : TS := (tIfS (tNot (tTru K (tCall (sp_is_walk K a) [] E0 (tCons (tProp a.Update (sp_Update_network K a) [] E0 (tVar 0)) (tCons (tVar 1) tNil))))) tNever tNext)
def C_need_walk (a : Ad) : Ct := fun ds P => ∃ u w, ds = [updD a u, walkD w] ∧ WalkOk u.ns u.es w ∧ P = (· = .non)
abbrev sp_need_walk (K : PySem.W.Frag) (a : Ad) : Sp := spF K 0 (C_need_walk a)
theorem bd_need_walk (T : Tc K a) : ∀ {vs H Q E}, sp_need_walk K a vs H Q E → t_need_walk K a { nx := fun _ H' => Q .non H', rt := Q } (L2.start N_need_walk vs) H := body_F fun ds P m c => by
  obtain ⟨u, w, rfl, ok, rfl⟩ := c
  have hnet : DF K (tProp a.Update (sp_Update_network K a) [] E0 (tVar 0)) [.val (updD a u), .val (walkD w)] 0 (· = netD a u.ns u.es) := e_prop (f_var rfl) ⟨u, rfl, rfl⟩
  exact es_if (b := false) (e_not (b := true) (e_truB (e_call (n := 0) (ea_cons hnet (ea_cons (f_var rfl) a_nil)) ⟨u.ns, u.es, w, rfl, ok, rfl⟩))) (fun h => nomatch h) fun _ => s_next ⟨Nat.le_refl _, rfl⟩
/-- the arguments of the questions about doubled nodes -/
structure AskOk (u : Up) (l : Str) (tw : List Str) (w : List (Option Str)) : Prop where
  net : NetOk u.ns u.es
  fl : l ∈ u.fl
  tw : TwOk u.ns tw
  wk : WalkOk u.ns u.es w
def N_need_all : List Str := ["update", "flow", "doubles", "walk"]
def t_need_all [Wld] (K : PySem.W.Frag) (a : Ad) : TS := (tSeq (tDrop (tCall (sp_need_flow K a) [] E0 (tCons (tVar 0) (tCons (tVar 1) tNil)))) (tSeq (tDrop (tCall (sp_need_doubles K a) [] E0 (tCons (tVar 0) (tCons (tVar 2) tNil)))) (tDrop (tCall (sp_need_walk K a) [] E0 (tCons (tVar 0) (tCons (tVar 3) tNil))))))
def C_need_all (a : Ad) : Ct := fun ds P => ∃ u l x tw w, ds = [updD a u, .str l, x, walkD w] ∧ isSeq x = some (tw.map .str) ∧ AskOk u l tw w ∧ P = (· = .non)
abbrev sp_need_all (K : PySem.W.Frag) (a : Ad) : Sp := spF K 0 (C_need_all a)
theorem bd_need_all (T : Tc K a) : ∀ {vs H Q E}, sp_need_all K a vs H Q E → t_need_all K a { nx := fun _ H' => Q .non H', rt := Q } (L2.start N_need_all vs) H := body_F fun ds P m c => by
  obtain ⟨u, l, x, tw, w, rfl, hx, ok, rfl⟩ := c
  refine s_seq (s_drop (n := 0) (e_call (ea_cons (f_var rfl) (ea_cons (f_var rfl) a_nil)) ⟨u, l, rfl, ok.fl, rfl⟩) fun _ _ => ?_)
  refine s_seq (s_drop (n := 0) (e_call (ea_cons (f_var rfl) (ea_cons (f_var rfl) a_nil)) ⟨u, x, tw, rfl, hx, ok.tw, rfl⟩) fun _ _ => ?_)
  exact s_drop (n := 0) (e_call (ea_cons (f_var rfl) (ea_cons (f_var rfl) a_nil)) ⟨u, w, rfl, ok.wk, rfl⟩) fun _ _ => ⟨Nat.le_refl _, rfl⟩
/-! ### memory -/
theorem putD_same {k : Key} {v : D} : ∀ {kvs : List (Key × D)}, (∀ kv ∈ kvs, kv.1 = k → kv.2 = v) → k ∈ kvs.map (·.1) → putD kvs k v = kvs := by
  intro kvs h hk
  obtain ⟨p, hp, e⟩ := List.mem_map.mp hk
  unfold putD
  rw [if_pos (List.any_eq_true.mpr ⟨p, hp, decide_eq_true e⟩)]
  conv => rhs; rw [← List.map_id kvs]
  refine List.map_congr_left fun kv hkv => ?_
  by_cases q : kv.1 = k
  · rw [if_pos q, ← h kv hkv q]; rfl
  · rw [if_neg q]; rfl
def N_stamped : List Str := ["doubles", "memory", "word", "node", "stamp", "fresh", "one", "name"]
def t_stamped [Wld] (K : PySem.W.Frag) (a : Ad) : TS := (tSeq (tAsg (tVar 1) (gTup K 2 (gCons (gName 4) (gCons (gName 5) gNil)))) (tSeq (tIfS (tOr (tTest (tOp (rEqP K) (tVar 2) (tC (.str "none")))) (tTest (tOp (rEqP K) (tVar 2) (tC (.str "same"))))) (tRet (tIf (tTest (tOp (rEqP K) (tVar 2) (tC (.str "same")))) (tVar 1) (tC .non))) tNext) (tSeq (tIfS (tTest (tOp (rInX K) (tVar 3) (tVar 0))) (tRet (tIf (tTest (tOp (rInX K) (tVar 4) (tTup (tCons (tC (.str "")) (tCons (tVar 2) tNil))))) (tTup (tCons (tVar 2) (tCons (tVar 5) tNil))) (tC .non))) tNext) (tSeq (tIfS (tTest (tOp (rEqP K) (tVar 2) (tC (.str "old")))) (tRet (tIf (tTest (tOp (rInX K) (tVar 3) (tVar 5))) (tC .non) (tVar 1))) tNext) (tRet (tTup (tCons (tVar 4) (tCons (tCB (rTupX K) (tCons (tCB (rSortX K) (tCons (tLc (iKeysL (tDc (iSeq K (tTup (StX.tStar K (tVar 5) (tCons (tVar 3) tNil)))) (gName 6) tYes (tVar 6) (tC (.bl true)) [6])) (gName 7) tYes (tCB (rStrX) (tCons (tVar 7) tNil)) [7]) tNil)) tNil)) tNil))))))))
def C_stamped : Ct := fun ds P => ∃ x tw q word node, ds = [x, memD q, .str word, .str node] ∧ isSeq x = some (tw.map .str) ∧ q.2.Nodup ∧ q.2.length ≤ 60 ∧ P = (· = memOD (stampS tw q word node))
abbrev sp_stamped (K : PySem.W.Frag) (a : Ad) : Sp := spF K 0 C_stamped
theorem trues_get (fr : List Str) : ((fr.map fun s => ((.inr s : Key), (D.bl true))).map (·.1)) = fr.map .inr := by rw [List.map_map]; rfl
theorem bd_stamped (T : Tc K a) : ∀ {vs H Q E}, sp_stamped K a vs H Q E → t_stamped K a { nx := fun _ H' => Q .non H', rt := Q } (L2.start N_stamped vs) H := body_F fun ds P m c => by
  obtain ⟨x, tw, ⟨st, fr⟩, word, node, rfl, hx, nd, le, rfl⟩ := c
  show DS K _ [.val x, .val (memD (st, fr)), .val (.str word), .val (.str node), .no, .no, .no, .no] m _
  unfold t_stamped
  refine s_seq (es_tgt (f_var (d := .tup [.str st, strsT fr]) rfl) (g_tup (gs_cons g_name (gs_cons g_name gs_nil))) ?_)
  have eqs : ∀ {Γ : Gm} {i : Nat} {s t : Str}, Γ[i]? = some (.val (.str s)) → DT K (tTest (tOp (rEqP K) (tVar i) (tC (.str t)))) Γ 0 (· = decide (s = t)) := fun h => e_test (e_op ok_eq (f_var h).r c_str.r (by rw [eqF_str]; rfl))
  refine s_seq (es_if (b := decide (word = "none") || decide (word = "same")) (e_or (eqs rfl) fun _ => eqs rfl) (fun h => ?_) fun h => s_next ?_)
  · refine es_ret ((e_if (eqs rfl) (fun _ => f_var rfl) fun _ => c_non).cast ?_) ⟨Nat.le_refl _, rfl⟩
    have h2 : word = "none" ∨ word = "same" := by simpa using h
    show _ = memOD (stampS tw (st, fr) word node)
    unfold stampS
    rw [if_pos h2]
    by_cases q : word = "same"
    · rw [decide_eq_true q, if_pos rfl, if_pos q]; rfl
    · rw [decide_eq_false q, if_neg Bool.false_ne_true, if_neg q]; rfl
  have h1 : ¬ (word = "none" ∨ word = "same") := by simpa using h
  refine s_seq (es_if (b := decide (node ∈ tw)) (e_test (e_op ok_in (f_var rfl).r (f_var rfl).r (by rw [inF_sq hx]; rfl))) (fun h => ?_) fun h => s_next ?_)
  · have hin : inF (.str st) (.tup [.str "", .str word]) = some (decide (st ∈ [("" : Str), word])) := (inF_strs st [("" : Str), word]).2
    refine es_ret ((e_if (e_test (e_op ok_in (f_var rfl).r (e_tup (ea_cons c_str (ea_cons (f_var rfl) a_nil)) (by show 2 ≤ 1000; omega)).r (by rw [hin]; rfl))) (fun _ => e_tup (ea_cons (f_var rfl) (ea_cons (f_var rfl) a_nil)) (by show 2 ≤ 1000; omega)) fun _ => c_non).cast ?_) ⟨Nat.le_refl _, rfl⟩
    show _ = memOD (stampS tw (st, fr) word node)
    unfold stampS
    rw [if_neg h1, if_pos (of_decide_eq_true h)]
    by_cases q : st = "" ∨ st = word
    · rw [decide_eq_true (show st ∈ [("" : Str), word] by simpa using q), if_pos rfl, if_pos q]; rfl
    · rw [decide_eq_false (show ¬ st ∈ [("" : Str), word] by simpa using q), if_neg Bool.false_ne_true, if_neg q]; rfl
  have h2 : ¬ node ∈ tw := of_decide_eq_false h
  refine s_seq (es_if (b := decide (word = "old")) (eqs rfl) (fun h => ?_) fun h => s_next ?_)
  · refine es_ret ((e_if (e_test (e_op ok_in (f_var rfl).r (f_var rfl).r (by rw [strsT, (inF_strs _ _).2]; rfl))) (fun _ => c_non) fun _ => f_var rfl).cast ?_) ⟨Nat.le_refl _, rfl⟩
    show _ = memOD (stampS tw (st, fr) word node)
    unfold stampS
    rw [if_neg h1, if_neg h2, if_pos (of_decide_eq_true h)]
    by_cases q : node ∈ fr
    · rw [decide_eq_true q, if_pos rfl]; show _ = memOD (if node ∈ fr then none else _); rw [if_pos q]; rfl
    · rw [decide_eq_false q, if_neg Bool.false_ne_true]; show _ = memOD (if node ∈ fr then none else _); rw [if_neg q]; rfl
  have h3 : ¬ word = "old" := of_decide_eq_false h
  have hk : DW K (tDc (iSeq K (tTup (StX.tStar K (tVar 5) (tCons (tVar 3) tNil)))) (gName 6) tYes (tVar 6) (tC (.bl true)) [6]) [.val x, .val (memD (st, fr)), .val (.str word), .val (.str node), .val (.str st), .val (strsT fr), .no, .no] 0 (· = .dK ((addS fr node).map fun s => ((.inr s : Key), D.bl true))) := by
    have hi : DI K (iSeq K (tTup (StX.tStar K (tVar 5) (tCons (tVar 3) tNil)))) [.val x, .val (memD (st, fr)), .val (.str word), .val (.str node), .val (.str st), .val (strsT fr), .no, .no] 0 (· = (fr ++ [node]).map .str) :=
      DI.castL (i_t (e_tup (a_star (x := strsT fr) (es := fr.map .str) (f_var rfl) rfl (ea_cons (f_var (d := .str node) rfl) a_nil)) (by rw [List.length_append, List.length_map]; show fr.length + 1 ≤ 1000; have := le; dsimp only at this; omega))) (by rw [List.map_append]; rfl)
    refine (w_dc (K := K) (L := 61) (n1 := 0) (n2 := 0) (n3 := 0) (is := [6]) (fun _ i acc => acc = (if i ≤ fr.length then fr.take i else addS fr node).map fun s => ((.inr s : Key), D.bl true)) hi (fun ds e => ?_) (by omega) (by simp) (fun ds e => ?_) (fun ds i d acc e hd hacc => ?_) (fun ds acc e hacc => ?_)).le (by omega)
    · rw [e, List.length_map, List.length_append]; show fr.length + 1 ≤ 61; have := le; dsimp only at this; omega
    · rw [if_pos (Nat.zero_le _)]; rfl
    · subst e
      rw [List.getElem?_map] at hd
      cases q : (fr ++ [node])[i]? with
      | none => rw [q] at hd; cases hd
      | some s =>
        rw [q] at hd; cases hd
        refine ⟨_, g_name, (· = true), t_yes, fun _ => ⟨(· = .inr s), (f_var (d := .str s) rfl).imp fun e he => by rw [he]; exact ⟨_, rfl, rfl⟩, fun k hk => c_bl.imp fun e he => ?_⟩, fun h => nomatch h⟩
        subst hk; subst he
        rw [hacc]
        have hil := (List.getElem?_eq_some_iff.mp q).1
        rw [List.length_append, List.length_singleton] at hil
        by_cases hlt : i < fr.length
        · have q2 : fr[i]? = some s := by rw [← q, List.getElem?_append_left hlt]
          rw [if_pos (by omega), if_pos (by omega), take_succ q2, List.map_append, putD_new]
          · rfl
          · intro hm
            rw [List.map_map] at hm
            obtain ⟨z, hz, ez⟩ := List.mem_map.mp hm
            cases ez
            obtain ⟨j, hj, ej⟩ := List.getElem_of_mem hz
            have hj' : j < i := by rw [List.length_take] at hj; omega
            have e1 : fr[j]? = some s := by rw [← ej, List.getElem_take]; exact List.getElem?_eq_getElem _
            have := nd_ix nd e1 q2
            omega
        · have ei : i = fr.length := by omega
          subst ei
          have q2 : s = node := by
            rw [List.getElem?_append_right (Nat.le_refl _), Nat.sub_self] at q
            exact (Option.some.inj q).symm
          subst q2
          rw [if_pos (Nat.le_refl _), if_neg (by omega), List.take_length]
          unfold addS
          by_cases hm : s ∈ fr
          · rw [if_pos hm, putD_same]
            · intro kv hkv _
              obtain ⟨z, _, rfl⟩ := List.mem_map.mp hkv; rfl
            · rw [List.map_map]; exact List.mem_map.mpr ⟨s, hm, rfl⟩
          · rw [if_neg hm, putD_new, List.map_append]
            · rfl
            · rw [List.map_map]
              intro hh
              obtain ⟨z, hz, ez⟩ := List.mem_map.mp hh
              cases ez; exact hm hz
    · subst e
      rw [hacc, List.length_map, List.length_append, List.length_singleton, if_neg (by omega)]
  have hal : (addS fr node).length ≤ 61 := by
    have := le; dsimp only at this
    unfold addS; split
    · omega
    · rw [List.length_append, List.length_singleton]; omega
  refine es_ret ((e_tup (ea_cons (f_var rfl) (ea_cons (e_cb ok_tup (ew_sorted (ss := addS fr node) ((ew_map (is := [7]) (vs := [7]) (ds := (addS fr node).map .str) (f := id) (DI.castL (i_keys hk.f) (by rw [List.map_map]; rfl)) (by rw [List.length_map]; omega) (by simp) fun i d hd => ⟨_, g_name, ?_⟩).cast (by rw [List.map_id])).f.r (by omega)).f.r rfl) a_nil)) (by show 2 ≤ 1000; omega)).cast ?_) ⟨Nat.le_refl _, rfl⟩
  · rw [List.getElem?_map] at hd
    cases q : (addS fr node)[i]? with
    | none => rw [q] at hd; cases hd
    | some s => rw [q] at hd; cases hd; exact e_cb ok_str (f_var rfl).r rfl
  · unfold stampS
    rw [if_neg h1, if_neg h2, if_neg h3]; rfl
/-- the memory behind some words -/
def behind (tw : List Str) : List (Str × Str) → Mem → Option Mem
  | [], q => some q
  | p :: r, q => match stampS tw q p.1 p.2 with
    | some q' => behind tw r q'
    | none => none
theorem behind_snoc (tw : List Str) (p : Str × Str) : ∀ (l : List (Str × Str)) (q : Mem), behind tw (l ++ [p]) q = (behind tw l q).bind fun q' => stampS tw q' p.1 p.2
  | [], q => by
    show (match stampS tw q p.1 p.2 with | some q' => behind tw [] q' | none => none) = stampS tw q p.1 p.2
    cases stampS tw q p.1 p.2 <;> rfl
  | r :: l, q => by
    show (match stampS tw q r.1 r.2 with | some q' => behind tw (l ++ [p]) q' | none => none) = (match stampS tw q r.1 r.2 with | some q' => behind tw l q' | none => none).bind _
    cases stampS tw q r.1 r.2 with
    | none => rfl
    | some q' => exact behind_snoc tw p l q'
theorem behind_none (tw : List Str) (l r : List (Str × Str)) (q : Mem) (h : behind tw l q = none) : behind tw (l ++ r) q = none := by
  induction l generalizing q with
  | nil => cases h
  | cons p l ih =>
    have h' : (match stampS tw q p.1 p.2 with | some q' => behind tw l q' | none => none) = none := h
    show (match stampS tw q p.1 p.2 with | some q' => behind tw (l ++ r) q' | none => none) = none
    cases e : stampS tw q p.1 p.2 with
    | none => rfl
    | some q' => rw [e] at h'; exact ih q' h'
def nodeOf (x : Option Str) : Str := x.getD ""
/-- the words with their nodes -/
def pairsOf (u : Up) (l : Str) (rows : List (List Str)) (w : List (Option Str)) : List (Str × Str) := List.zipWith (fun x h => (wordAt u l rows x h, nodeOf x)) w (w.drop 1)
def memW (u : Up) (tw : List Str) (l : Str) (w : List (Option Str)) : Option Mem := behind tw (pairsOf u l [sortS u.ns] w) ("", [])
structure FrOk (ns : List Str) (q : Mem) : Prop where
  nd : q.2.Nodup
  sub : ∀ s ∈ q.2, s ∈ ns
theorem sub_len : ∀ {l ns : List Str}, l.Nodup → (∀ s ∈ l, s ∈ ns) → l.length ≤ ns.length
  | [], _, _, _ => Nat.zero_le _
  | x :: t, ns, nd, h => by
    have hx := h x (List.mem_cons_self ..)
    have h1 := sub_len (ns := ns.erase x) (List.nodup_cons.mp nd).2 fun s hs => (List.mem_erase_of_ne fun e => (List.nodup_cons.mp nd).1 (by rw [← e]; exact hs)).mpr (h s (List.mem_cons_of_mem _ hs))
    rw [List.length_erase_of_mem hx] at h1
    have h2 := List.length_pos_of_mem hx
    rw [List.length_cons]; omega
theorem stamp_ok {ns tw : List Str} {q q' : Mem} {word node : Str} (ok : FrOk ns q) (hn : node ∈ ns) (h : stampS tw q word node = some q') : FrOk ns q' := by
  unfold stampS at h
  split at h
  · split at h
    · cases h; exact ok
    · cases h
  · split at h
    · split at h
      · cases h; exact ⟨ok.nd, ok.sub⟩
      · cases h
    · split at h
      · split at h
        · cases h
        · cases h; exact ok
      · cases h
        have hnd : (addS q.2 node).Nodup := by
          unfold addS
          split
          · exact ok.nd
          · rename_i hh
            rw [List.nodup_append]
            exact ⟨ok.nd, by simp, fun x hx y hy e => hh (by rw [List.mem_singleton.mp hy] at e; rw [← e]; exact hx)⟩
        have hsb : ∀ s ∈ addS q.2 node, s ∈ ns := by
          unfold addS
          split
          · exact ok.sub
          · intro s hs
            rcases List.mem_append.mp hs with hs | hs
            · exact ok.sub s hs
            · rw [List.mem_singleton.mp hs]; exact hn
        exact ⟨(sortS_perm _).nodup_iff.mpr hnd, fun s hs => hsb s (sortS_mem.mp hs)⟩
def N_memory_behind : List Str := ["update", "flow", "doubles", "walk", "memory", "word", "node"]
def t_memory_behind [Wld] (K : PySem.W.Frag) (a : Ad) : TS := (tSeq (tAsg (tTup (tCons (tC (.str "")) (tCons (tTup tNil) tNil))) (gName 4)) (tSeq (tFor (iZipS K (tCons (tCall (sp_seen_words K a) [] E0 (tCons (tVar 0) (tCons (tVar 1) (tCons (tCall (sp_whole_plan K a) [] E0 (tCons (tVar 0) tNil)) (tCons (tVar 3) tNil))))) (tCons (tVar 3) tNil))) (gTup K 2 (gCons (gName 5) (gCons (gName 6) gNil))) (tSeq (tAsg (tCall (sp_stamped K a) [] E0 (tCons (tVar 2) (tCons (tVar 4) (tCons (tVar 5) (tCons (tVar 6) tNil))))) (gName 4)) (tIfS (tTest (tOp (L2.rIsN) (tVar 4) (tC .non))) (tRet (tC .non)) tNext))) (tRet (tVar 4))))
def C_memory_behind (a : Ad) : Ct := fun ds P => ∃ u l x tw w, ds = [updD a u, .str l, x, walkD w] ∧ isSeq x = some (tw.map .str) ∧ AskOk u l tw w ∧ P = (· = memOD (memW u tw l w))
abbrev sp_memory_behind (K : PySem.W.Frag) (a : Ad) : Sp := spF K 0 (C_memory_behind a)
theorem zipWith_at {α β γ : Type} {f : α → β → γ} {xs : List α} {ys : List β} {i : Nat} {x : α} {y : β} (h1 : xs[i]? = some x) (h2 : ys[i]? = some y) : (List.zipWith f xs ys)[i]? = some (f x y) := by
  rw [List.getElem?_zipWith, h1, h2]
theorem bd_memory_behind (T : Tc K a) : ∀ {vs H Q E}, sp_memory_behind K a vs H Q E → t_memory_behind K a { nx := fun _ H' => Q .non H', rt := Q } (L2.start N_memory_behind vs) H := body_F fun ds P m c => by
  obtain ⟨u, l, x, tw, w, rfl, hx, ok, rfl⟩ := c
  show DS K _ [.val (updD a u), .val (.str l), .val x, .val (walkD w), .no, .no, .no] m _
  unfold t_memory_behind
  refine s_seq (es_set (d := memD ("", [])) (e_tup (ea_cons c_str (ea_cons (e_tup (ds := []) a_nil (by show 0 ≤ 1000; omega)) a_nil)) (by show 2 ≤ 1000; omega)) ?_)
  have hw : DF K (tCall (sp_seen_words K a) [] E0 (tCons (tVar 0) (tCons (tVar 1) (tCons (tCall (sp_whole_plan K a) [] E0 (tCons (tVar 0) tNil)) (tCons (tVar 3) tNil))))) [.val (updD a u), .val (.str l), .val x, .val (walkD w), .val (memD ("", [])), .no, .no] 0 (· = strsL (wordsOf u l [sortS u.ns] w)) :=
    e_call (ea_cons (f_var rfl) (ea_cons (f_var rfl) (ea_cons (e_call (n := 0) (ea_cons (f_var rfl) a_nil) ⟨u, rfl, ok.net, rfl⟩) (ea_cons (f_var rfl) a_nil)))) ⟨u, l, [sortS u.ns], [], w, rfl, ok.fl, ok.wk, rfl⟩
  refine s_seq (s_for (n := 0) (PL := (· = zipD ((wordsOf u l [sortS u.ns] w).map .str) (w.map hopD))) (fun ds i Γ m' => m' = m ∧ ∃ q s t, Γ = [.val (updD a u), .val (.str l), .val x, .val (walkD w), .val (memD q), s, t] ∧ behind tw ((pairsOf u l [sortS u.ns] w).take i) ("", []) = some q ∧ FrOk u.ns q) (i_zip hw (f_var rfl) rfl rfl) (fun ds e => ⟨rfl, ("", []), _, _, rfl, rfl, ⟨List.nodup_nil, fun s h => nomatch h⟩⟩) ?_ ?_)
  · rintro ds i d Γ' m' e hd ⟨rfl, q, s, t, rfl, hq, fok⟩
    subst e
    obtain ⟨y, z, h1, h2, rfl⟩ := zip_at hd
    rw [List.getElem?_map] at h1 h2
    cases q1 : (wordsOf u l [sortS u.ns] w)[i]? with
    | none => rw [q1] at h1; cases h1
    | some wd =>
      cases q2 : w[i]? with
      | none => rw [q2] at h2; cases h2
      | some nd =>
        rw [q1] at h1; rw [q2] at h2; cases h1; cases h2
        have q1' := q1
        unfold wordsOf at q1'
        rw [List.getElem?_zipWith, q2] at q1'
        cases q3 : (w.drop 1)[i]? with
        | none => rw [q3] at q1'; cases q1'
        | some hp =>
          rw [q3] at q1'
          have q1' := Option.some.inj q1'
          obtain ⟨sn, rfl, hs⟩ := ok.wk.mid _ (drop_last_get q2 q3)
          have hp1 : (pairsOf u l [sortS u.ns] w)[i]? = some (wd, sn) := by
            unfold pairsOf; rw [zipWith_at q2 q3, q1']; rfl
          have step : behind tw ((pairsOf u l [sortS u.ns] w).take (i + 1)) ("", []) = stampS tw q wd sn := by
            rw [take_succ hp1, behind_snoc, hq]; rfl
          have fl8 : q.2.length ≤ 60 := Nat.le_trans (sub_len fok.nd fok.sub) (by have := ok.net.n8; omega)
          refine ⟨_, _, g_tup (gs_cons g_name (gs_cons g_name gs_nil)), s_seq (es_set (e_call (n := 0) (ea_cons (f_var rfl) (ea_cons (f_var rfl) (ea_cons (f_var rfl) (ea_cons (f_var (d := .str sn) rfl) a_nil)))) ⟨x, tw, q, wd, sn, rfl, hx, fok.nd, fl8, rfl⟩) ?_)⟩
          cases st : stampS tw q wd sn with
          | none =>
            refine es_if (b := true) (e_test (e_op ok_isN (f_var rfl).r c_non.r rfl)) (fun _ => es_ret c_non ⟨Nat.le_refl _, ?_⟩) (fun h => nomatch h)
            have hn : memW u tw l w = none := by
              unfold memW
              rw [← List.take_append_drop (i + 1) (pairsOf u l [sortS u.ns] w)]
              exact behind_none tw _ _ _ (by rw [step, st])
            rw [hn]; rfl
          | some q' =>
            refine es_if (b := false) (e_test (e_op ok_isN (f_var rfl).r c_non.r rfl)) (fun h => nomatch h) (fun _ => s_next ⟨rfl, q', _, _, rfl, by rw [step, st], stamp_ok fok hs st⟩)
  · rintro ds Γ' m' e ⟨rfl, q, s, t, rfl, hq, fok⟩
    subst e
    refine es_ret (f_var rfl) ⟨Nat.le_refl _, ?_⟩
    have hl : (pairsOf u l [sortS u.ns] w).length ≤ (zipD ((wordsOf u l [sortS u.ns] w).map .str) (w.map hopD)).length := by
      unfold pairsOf wordsOf
      rw [zipD_len, List.length_map, List.length_map, List.length_zipWith, List.length_zipWith]
      omega
    rw [List.take_of_length_le hl] at hq
    show memD q = memOD (memW u tw l w)
    unfold memW
    rw [hq]; rfl
def N_is_possible_with : List Str := ["update", "flow", "doubles", "walk"]
def t_is_possible_with [Wld] (K : PySem.W.Frag) (a : Ad) : TS := (tSeq (tDrop (tCall (sp_need_all K a) [] E0 (tCons (tVar 0) (tCons (tVar 1) (tCons (tVar 2) (tCons (tVar 3) tNil)))))) (tRet (tOp (L2.rNotN) (tCall (sp_memory_behind K a) [] E0 (tCons (tVar 0) (tCons (tVar 1) (tCons (tVar 2) (tCons (tVar 3) tNil))))) (tC .non))))
def C_is_possible_with (a : Ad) : Ct := fun ds P => ∃ u l x tw w, ds = [updD a u, .str l, x, walkD w] ∧ isSeq x = some (tw.map .str) ∧ AskOk u l tw w ∧ P = (· = .bl (memW u tw l w).isSome)
abbrev sp_is_possible_with (K : PySem.W.Frag) (a : Ad) : Sp := spF K 0 (C_is_possible_with a)
theorem bd_is_possible_with (T : Tc K a) : ∀ {vs H Q E}, sp_is_possible_with K a vs H Q E → t_is_possible_with K a { nx := fun _ H' => Q .non H', rt := Q } (L2.start N_is_possible_with vs) H := body_F fun ds P m c => by
  obtain ⟨u, l, x, tw, w, rfl, hx, ok, rfl⟩ := c
  refine s_seq (s_drop (n := 0) (e_call (ea_cons (f_var rfl) (ea_cons (f_var rfl) (ea_cons (f_var rfl) (ea_cons (f_var rfl) a_nil)))) ⟨u, l, x, tw, w, rfl, hx, ok, rfl⟩) fun _ _ => ?_)
  refine es_ret (e_op ok_notN (e_call (n := 0) (ea_cons (f_var rfl) (ea_cons (f_var rfl) (ea_cons (f_var rfl) (ea_cons (f_var rfl) a_nil)))) ⟨u, l, x, tw, w, rfl, hx, ok, rfl⟩).r c_non.r ?_) ⟨Nat.le_refl _, rfl⟩
  cases memW u tw l w <;> rfl
end
end DL
set_option Elab.async false
set_option linter.all false
set_option maxRecDepth 100000
set_option maxHeartbeats 2000000
/-! Kh: run_with. -/
namespace DL
open PySem L2
inductive Ev where
  | flip | enter (s : Str) | switch (s : Str) | move (h : Option Str)
  deriving DecidableEq
def evD : Ev → D
  | .flip => .tup [.str "flip"]
  | .enter s => .tup [.str "enter", .str s]
  | .switch s => .tup [.str "switch", .str s]
  | .move h => .tup [.str "move", hopD h]
def tripsOf (u : Up) (l : Str) (rows : List (List Str)) (w : List (Option Str)) : List (Str × Str × Option Str) := List.zipWith (fun x h => (wordAt u l rows x h, nodeOf x, h)) w (w.drop 1)
def stepRun (tw : List Str) (st : List Ev × List Str) (t : Str × Str × Option Str) : List Ev × List Str :=
  if t.1 = "new" ∧ t.2.1 ∉ tw ∧ t.2.1 ∉ st.2 then (st.1 ++ [.switch t.2.1, .move t.2.2], st.2 ++ [t.2.1]) else (st.1 ++ [.move t.2.2], st.2)
def preRun (q : Mem) (w : List (Option Str)) : List Ev := (if q.1 = "new" then [.flip] else []) ++ [.enter (nodeOf (w.head?.getD none))]
def runW (u : Up) (tw : List Str) (l : Str) (w : List (Option Str)) : Option (List Ev) := (memW u tw l w).map fun q => ((tripsOf u l [sortS u.ns] w).foldl (stepRun tw) (preRun q w, [])).1
section
variable [Wld] {K : PySem.W.Frag} {a : Ad} {m n : Nat} {Γ : Gm} {te ta tb : TE} {t : TS} {tr : TA} {tl th : TO} {d x y : D} {E : XK}
/-! ### a def that gives data or a new owned thing -/
abbrev CtV := List D → (Sl → Prop) → Prop
def spV (K : PySem.W.Frag) (n : Nat) (C : CtV) : Sp := fun vs H Q _ => ∃ m B ds S, Le (m + n) B H ∧ IsL K B vs ds ∧ C ds S ∧ ∀ v B' H' s, Go B H B' H' → Le m B' H' → SlOk K B' H' H v s → S s → Q v H'
theorem sl_old {B B' : Kn} {H0 H H' : Hp} {v : V} {s : Sl} {m' : Nat} (g : Go B H0 B H) (le : Le m' B H) (h : SlOk K B' H' H v s) : SlOk K B' H' H0 v s := by
  cases s with
  | no => exact h
  | val d => exact h
  | ow d p => obtain ⟨b, e, hn, ho, hp⟩ := h; exact ⟨b, e, new_of g le hn, ho, hp⟩
theorem v_call {C : CtV} {ds : List D} {S : Sl → Prop} (h : DA K tr Γ 0 (· = ds)) (hc : C ds S) : DV K (tCall (spV K n C) [] E tr) Γ n S := by
  intro m B H σ le sg Q k
  refine h (m + n) B H σ le sg _ fun vs B1 H1 es g1 le1 hs p => ?_
  subst p
  refine ⟨m, B1, es, S, le1, by rw [List.append_nil]; exact hs, hc, fun v B2 H2 s g2 le2 hsl q => k v B2 H2 s (g1.trans g2) le2 ?_ q⟩
  cases s with
  | no => exact hsl
  | val d => exact hsl
  | ow d p => obtain ⟨b, e, hn, ho, hp⟩ := hsl; exact ⟨b, e, new_of g1 le1 hn, ho, hp⟩
theorem v_callN {ix : List Nat} {l : Nat} {C : CtV} {ds : List D} {S : Sl → Prop} (h : DA K tr Γ 0 (· = ds)) (hl : ds.length = l) (hc : C (pmD ix ds) S) : DV K (tCallN 0 l (spV K n C) (pmV ix) E tNil tr) Γ n S := by
  intro m B H σ le sg Q k
  refine h (m + n) B H σ le sg _ fun vs B1 H1 es g1 le1 hs p => ?_
  subst p
  refine ⟨rfl, by rw [hs.length]; exact hl, m, B1, _, S, le1, pm_is hs, hc, fun v B2 H2 s g2 le2 hsl q => k v B2 H2 s (g1.trans g2) le2 ?_ q⟩
  cases s with
  | no => exact hsl
  | val d => exact hsl
  | ow d p => obtain ⟨b, e, hn, ho, hp⟩ := hsl; exact ⟨b, e, new_of g1 le1 hn, ho, hp⟩
theorem DV.f {S : Sl → Prop} (h : DV K te Γ n S) : DF K te Γ n (fun d => ∃ s, S s ∧ (s = .val d ∨ ∃ p, s = .ow d p)) := by
  intro m B H σ le sg Q k
  refine h m B H σ le sg Q fun v B' H' s g le' hs q => ?_
  cases s with
  | no => exact hs.elim
  | val d => exact k v B' H' d g le' hs ⟨_, q, .inl rfl⟩
  | ow d p =>
    obtain ⟨b, rfl, hn, ho, hp⟩ := hs
    obtain ⟨o, ea, le2, gw, hi⟩ := ho.froze le'
    exact k _ _ _ d (frz_go ho.none hn g) le2 hi ⟨_, q, .inr ⟨p, rfl⟩⟩
def PoV (m : Nat) (S : Sl → Prop) : Posts := { nx := fun _ m' => m ≤ m' ∧ S (.val .non), rt := fun d m' => m ≤ m' ∧ S (.val d), rw := fun d m' => m ≤ m' ∧ S (.ow d) }
theorem start_no {N : List Str} {ds : List D} {i : Nat} {d : D} {p : Addr → Prop} : (startG N ds)[i]? ≠ some (.ow d p) := fun e => by
  unfold startG at e
  rw [List.getElem?_append] at e
  split at e
  · rw [List.getElem?_map] at e
    cases q : ds[i]? with
    | none => rw [q] at e; cases e
    | some x => rw [q] at e; cases e
  · have := List.mem_of_getElem? e
    rw [List.mem_replicate] at this
    cases this.2
theorem body_V {C : CtV} {N : List Str} (h : ∀ ds S m, C ds S → DS K t (startG N ds) (m + n) (PoV m S)) : ∀ {vs H Q E}, spV K n C vs H Q E → t { nx := fun _ H' => Q .non H', rt := Q } (L2.start N vs) H := by
  rintro vs H Q E ⟨m, B, ds, S, le, r, c, k⟩
  exact h ds S m c B H B H _ _ ⟨Go.refl _ _, le, start_sg r, fun i d p a e => (start_no e).elim⟩ ⟨fun m' B' H' σ Γ a ⟨hm, q⟩ => k _ B' H' (.val .non) a.go (a.le.mono hm) .non q, fun _ _ _ _ _ _ f => f.elim, fun _ _ _ _ _ _ f => f.elim, fun m' B' H' v d g le' hi ⟨hm, q⟩ => k v B' H' (.val d) g (le'.mono hm) hi q, fun m' B' H' b d g le' hn ho ⟨hm, q⟩ => k _ B' H' (.ow d) g (le'.mono hm) ⟨b, rfl, hn, ho, trivial⟩ q⟩
theorem spV_len {l : Nat} {C : CtV} (hl : ∀ ds S, C ds S → ds.length = l) {vs : List V} {H : Hp} {Q : VK} {E : XK} (h : spV K n C vs H Q E) : vs.length = l := by
  obtain ⟨m, B, ds, S, _, r, c, _⟩ := h
  rw [r.length]; exact hl ds S c
theorem zip3_at {xs ys zs : List D} {i : Nat} {d : D} (h : (zip3D xs ys zs)[i]? = some d) : ∃ x y z, xs[i]? = some x ∧ ys[i]? = some y ∧ zs[i]? = some z ∧ d = .tup [x, y, z] := by
  have hl := (List.getElem?_eq_some_iff.mp h).1
  rw [zip3D_len] at hl
  have e := zip3D_get (xs := xs) (ys := ys) (zs := zs) (i := i) (List.getElem?_eq_getElem (by omega)) (List.getElem?_eq_getElem (by omega)) (List.getElem?_eq_getElem (by omega))
  rw [e] at h
  exact ⟨_, _, _, List.getElem?_eq_getElem _, List.getElem?_eq_getElem _, List.getElem?_eq_getElem _, (Option.some.inj h).symm⟩
theorem fold_len (tw : List Str) : ∀ (l : List (Str × Str × Option Str)) (s : List Ev × List Str), (l.foldl (stepRun tw) s).1.length ≤ s.1.length + 2 * l.length ∧ (l.foldl (stepRun tw) s).2.length ≤ s.2.length + l.length
  | [], s => ⟨Nat.le_refl _, Nat.le_refl _⟩
  | t :: l, s => by
    have h := fold_len tw l (stepRun tw s t)
    have h1 : (stepRun tw s t).1.length ≤ s.1.length + 2 ∧ (stepRun tw s t).2.length ≤ s.2.length + 1 := by
      unfold stepRun
      split
      · exact ⟨by rw [List.length_append]; exact Nat.le_refl _, by rw [List.length_append]; exact Nat.le_refl _⟩
      · exact ⟨by rw [List.length_append]; exact Nat.add_le_add_left (show 1 ≤ 2 by omega) _, Nat.le_succ _⟩
    rw [List.foldl_cons, List.length_cons]
    omega
def N_run_with : List Str := ["update", "flow", "doubles", "walk", "memory", "events", "done", "word", "node", "hop"]
def t_run_with [Wld] (K : PySem.W.Frag) (a : Ad) : TS := (tSeq (tDrop (tCall (sp_need_all K a) [] E0 (tCons (tVar 0) (tCons (tVar 1) (tCons (tVar 2) (tCons (tVar 3) tNil)))))) (tSeq (tAsg (tCall (sp_memory_behind K a) [] E0 (tCons (tVar 0) (tCons (tVar 1) (tCons (tVar 2) (tCons (tVar 3) tNil))))) (gName 4)) (tSeq (tIfS (tTest (tOp (L2.rIsN) (tVar 4) (tC .non))) (tRet (tC .non)) tNext) (tSeq (tPar 5 6 (tCons (tIf (tTest (tOp (rEqP K) (tOp (rIxX K) (tVar 4) (tC (.int 0))) (tC (.str "new")))) (tLst (tCons (tTup (tCons (tC (.str "flip")) tNil)) tNil)) (tLst tNil)) (tCons (tLst tNil) tNil))) (tSeq (tDrop (tBM K "list" rAppend (tVar 5) (tCons (tTup (tCons (tC (.str "enter")) (tCons (tOp (rIxX K) (tVar 3) (tC (.int 0))) tNil))) tNil))) (tSeq (tFor (iZipS3 K (tCons (tCall (sp_seen_words K a) [] E0 (tCons (tVar 0) (tCons (tVar 1) (tCons (tCall (sp_whole_plan K a) [] E0 (tCons (tVar 0) tNil)) (tCons (tVar 3) tNil))))) (tCons (tVar 3) (tCons (tSl (rSlX K) (tVar 3) (tPart (tC (.int 1))) tNoPart) tNil)))) (gTup K 3 (gCons (gName 7) (gCons (gName 8) (gCons (gName 9) gNil)))) (tSeq (tIfS (tAnd (tTest (tOp (rEqP K) (tVar 7) (tC (.str "new")))) (tAnd (tTest (tOp (rNinX K) (tVar 8) (tVar 2))) (tTest (tOp (rNinX K) (tVar 8) (tVar 6))))) (tSeq (tDrop (tBM K "list" rAppend (tVar 5) (tCons (tTup (tCons (tC (.str "switch")) (tCons (tVar 8) tNil))) tNil))) (tDrop (tBM K "list" rAppend (tVar 6) (tCons (tVar 8) tNil)))) tNext) (tDrop (tBM K "list" rAppend (tVar 5) (tCons (tTup (tCons (tC (.str "move")) (tCons (tVar 9) tNil))) tNil))))) (tRet (tVar 5))))))))
def C_run_with (a : Ad) : CtV := fun ds S => ∃ u l x tw w, ds = [updD a u, .str l, x, walkD w] ∧ isSeq x = some (tw.map .str) ∧ AskOk u l tw w ∧ S = (· = match runW u tw l w with | none => Sl.val .non | some es => .ow (.lst (es.map evD)))
abbrev sp_run_with (K : PySem.W.Frag) (a : Ad) : Sp := spV K 0 (C_run_with a)
theorem bd_run_with (T : Tc K a) : ∀ {vs H Q E}, sp_run_with K a vs H Q E → t_run_with K a { nx := fun _ H' => Q .non H', rt := Q } (L2.start N_run_with vs) H := body_V fun ds S m c => by
  obtain ⟨u, l, x, tw, w, rfl, hx, ok, rfl⟩ := c
  show DS K _ [.val (updD a u), .val (.str l), .val x, .val (walkD w), .no, .no, .no, .no, .no, .no] m _
  unfold t_run_with
  refine s_seq (s_drop (n := 0) (e_call (ea_cons (f_var rfl) (ea_cons (f_var rfl) (ea_cons (f_var rfl) (ea_cons (f_var rfl) a_nil)))) ⟨u, l, x, tw, w, rfl, hx, ok, rfl⟩) fun _ _ => ?_)
  refine s_seq (es_set (e_call (n := 0) (ea_cons (f_var rfl) (ea_cons (f_var rfl) (ea_cons (f_var rfl) (ea_cons (f_var rfl) a_nil)))) ⟨u, l, x, tw, w, rfl, hx, ok, rfl⟩) ?_)
  unfold runW
  cases hq : memW u tw l w with
  | none => exact s_seq (es_if (b := true) (e_test (e_op ok_isN (f_var rfl).r c_non.r rfl)) (fun _ => es_ret c_non ⟨Nat.le_refl _, rfl⟩) (fun h => nomatch h))
  | some q =>
    refine s_seq (es_if (b := false) (e_test (e_op ok_isN (f_var rfl).r c_non.r rfl)) (fun h => nomatch h) fun _ => s_next ?_)
    obtain ⟨s0, t0, ew, hs0⟩ := ok.wk.first
    have g0 : ixF (walkD w) (.int 0) = some (.str s0) := by rw [ew]; exact ix_tup (i := 0) rfl
    have hflip : DW K (tIf (tTest (tOp (rEqP K) (tOp (rIxX K) (tVar 4) (tC (.int 0))) (tC (.str "new")))) (tLst (tCons (tTup (tCons (tC (.str "flip")) tNil)) tNil)) (tLst tNil)) [.val (updD a u), .val (.str l), .val x, .val (walkD w), .val (memD q), .no, .no, .no, .no, .no] 0 (· = .lst ((if q.1 = "new" then [Ev.flip] else []).map evD)) := by
      refine w_if (n1 := 0) (n2 := 0) (Pb := (· = decide (q.1 = "new"))) (e_test (e_op ok_eq (e_op ok_ix (f_var rfl).r c_int.r (ix_tup (l := [.str q.1, strsT q.2]) (i := 0) rfl)).r c_str.r (by rw [eqF_str]; rfl))) (fun h => ?_) fun h => ?_
      · rw [if_pos (of_decide_eq_true h.symm)]
        exact ew_lst (ea_cons (e_tup (ea_cons c_str a_nil) (by show 1 ≤ 1000; omega)) a_nil) (by show 1 ≤ 1000; omega)
      · rw [if_neg (of_decide_eq_false h.symm)]
        exact ew_lst a_nil
    refine s_seq (s_par (n1 := 0) (n2 := 0) hflip.v (ew_lst a_nil).v fun s1 s2 ⟨d1, e1, p1⟩ ⟨d2, e2, p2⟩ => ?_)
    subst e1; subst e2; subst p1; subst p2
    refine s_seq (es_app rfl ?_ (e_tup (ea_cons c_str (ea_cons (e_op ok_ix (f_var rfl).r c_int.r g0) a_nil)) (by show 2 ≤ 1000; omega)) ?_)
    · rw [List.length_map]; split <;> decide
    have hpre : preRun q w = (if q.1 = "new" then [Ev.flip] else []) ++ [.enter s0] := by rw [ew]; rfl
    have hw : ∀ {Γ : Gm}, Γ[0]? = some (.val (updD a u)) → Γ[1]? = some (.val (.str l)) → Γ[3]? = some (.val (walkD w)) → DF K (tCall (sp_seen_words K a) [] E0 (tCons (tVar 0) (tCons (tVar 1) (tCons (tCall (sp_whole_plan K a) [] E0 (tCons (tVar 0) tNil)) (tCons (tVar 3) tNil))))) Γ 0 (· = strsL (wordsOf u l [sortS u.ns] w)) := fun h0 h1 h3 =>
      e_call (ea_cons (f_var h0) (ea_cons (f_var h1) (ea_cons (e_call (n := 0) (ea_cons (f_var h0) a_nil) ⟨u, rfl, ok.net, rfl⟩) (ea_cons (f_var h3) a_nil)))) ⟨u, l, [sortS u.ns], [], w, rfl, ok.fl, ok.wk, rfl⟩
    refine s_seq (s_for (n := 0) (PL := (· = zip3D ((wordsOf u l [sortS u.ns] w).map .str) (w.map hopD) (cutD (w.map hopD) (some 1) none))) (fun ds i Γ m' => m' = m ∧ ∃ s t v, Γ = [.val (updD a u), .val (.str l), .val x, .val (walkD w), .val (memD q), .ow (.lst ((((tripsOf u l [sortS u.ns] w).take i).foldl (stepRun tw) (preRun q w, [])).1.map evD)), .ow (.lst ((((tripsOf u l [sortS u.ns] w).take i).foldl (stepRun tw) (preRun q w, [])).2.map .str)), s, t, v]) (i_zip3 (hw rfl rfl rfl) (f_var rfl) (e_sl (xs := w.map hopD) (f_var rfl).r (eo_some c_int) o_none) rfl rfl rfl) (fun ds e => ⟨rfl, .no, .no, .no, ?_⟩) ?_ ?_)
    · show _ = [_, _, _, _, _, Sl.ow (.lst ((preRun q w).map evD)), Sl.ow (.lst []), .no, .no, .no]
      rw [hpre, List.map_append]; rfl
    · rintro ds i d Γ' m' e hd ⟨rfl, s, t, v, rfl⟩
      subst e
      obtain ⟨y, z, z3, h1, h2, h3, rfl⟩ := zip3_at hd
      rw [cut_one w ok.wk.ge] at h3
      rw [List.getElem?_map] at h1 h2 h3
      cases q1 : (wordsOf u l [sortS u.ns] w)[i]? with
      | none => rw [q1] at h1; cases h1
      | some wd =>
        cases q2 : w[i]? with
        | none => rw [q2] at h2; cases h2
        | some nd =>
          cases q3 : (w.drop 1)[i]? with
          | none => rw [q3] at h3; cases h3
          | some hp =>
            rw [q1] at h1; rw [q2] at h2; rw [q3] at h3; cases h1; cases h2; cases h3
            unfold wordsOf at q1
            rw [zipWith_at q2 q3] at q1
            have q1 := Option.some.inj q1
            obtain ⟨sn, rfl, hs⟩ := ok.wk.mid _ (drop_last_get q2 q3)
            have ht : (tripsOf u l [sortS u.ns] w)[i]? = some (wd, sn, hp) := by
              unfold tripsOf; rw [zipWith_at q2 q3, q1]; rfl
            have hst : ((tripsOf u l [sortS u.ns] w).take (i + 1)).foldl (stepRun tw) (preRun q w, []) = stepRun tw (((tripsOf u l [sortS u.ns] w).take i).foldl (stepRun tw) (preRun q w, [])) (wd, sn, hp) := by
              rw [take_succ ht, List.foldl_append]; rfl
            have hln := fold_len tw ((tripsOf u l [sortS u.ns] w).take i) (preRun q w, [])
            have hil := (List.getElem?_eq_some_iff.mp q2).1
            have h400 := ok.wk.le
            have hpl : (preRun q w).length ≤ 2 := by rw [hpre, List.length_append]; split <;> simp
            rw [List.length_take] at hln
            rw [hst]
            generalize ((tripsOf u l [sortS u.ns] w).take i).foldl (stepRun tw) (preRun q w, []) = st at hln hst ⊢
            obtain ⟨st1, st2⟩ := st
            dsimp only [List.length_nil] at hln
            have l1 : st1.length ≤ 2000 := by omega
            have l2 : st2.length ≤ 2000 := by omega
            refine ⟨_, _, g_tup (gs_cons g_name (gs_cons g_name (gs_cons g_name gs_nil))), s_seq (es_if (b := decide (wd = "new") && (!decide (sn ∈ tw) && !decide (sn ∈ st2))) (e_and (e_test (e_op ok_eq (f_var rfl).r c_str.r (by rw [eqF_str]; rfl))) fun _ => e_and (e_test (e_op ok_nin (f_var (d := .str sn) rfl).r (f_var rfl).r (by rw [inF_sq hx]; rfl))) fun _ => e_test (e_op ok_nin (f_var (d := .str sn) rfl).r (r_var rfl) (by rw [(inF_strs _ _).1]; rfl))) (fun h => ?_) fun h => s_next ?_)⟩
            · have hb : wd = "new" ∧ sn ∉ tw ∧ sn ∉ st2 := by simpa using h
              have es : stepRun tw (st1, st2) (wd, sn, hp) = (st1 ++ [.switch sn, .move hp], st2 ++ [sn]) := by unfold stepRun; rw [if_pos hb]
              rw [es]
              refine s_seq (es_app rfl (by rw [List.length_map]; show st1.length < 16000000; omega) (e_tup (ea_cons c_str (ea_cons (f_var (d := .str sn) rfl) a_nil)) (by show 2 ≤ 1000; omega)) ?_)
              refine es_app rfl (by rw [List.length_map]; show st2.length < 16000000; omega) (f_var (d := .str sn) rfl) ?_
              refine es_app rfl (by rw [List.length_append, List.length_map, List.length_singleton]; show st1.length + 1 < 16000000; omega) (e_tup (ea_cons c_str (ea_cons (f_var (d := hopD hp) rfl) a_nil)) (by show 2 ≤ 1000; omega)) ⟨rfl, .val (.str wd), .val (.str sn), .val (hopD hp), ?_⟩
              rw [List.map_append, List.map_append]
              show [_, _, _, _, _, Sl.ow (.lst (st1.map evD ++ [evD (.switch sn)] ++ [evD (.move hp)])), _, _, _, _] = _
              rw [List.append_assoc]; rfl
            · have hb : ¬ (wd = "new" ∧ sn ∉ tw ∧ sn ∉ st2) := by simpa using h
              have es : stepRun tw (st1, st2) (wd, sn, hp) = (st1 ++ [.move hp], st2) := by unfold stepRun; rw [if_neg hb]
              rw [es]
              refine es_app rfl (by rw [List.length_map]; show st1.length < 16000000; omega) (e_tup (ea_cons c_str (ea_cons (f_var (d := hopD hp) rfl) a_nil)) (by show 2 ≤ 1000; omega)) ⟨rfl, .val (.str wd), .val (.str sn), .val (hopD hp), ?_⟩
              rw [List.map_append]; rfl
    · rintro ds Γ' m' e ⟨rfl, s, t, v, rfl⟩
      subst e
      refine s_retO rfl ⟨Nat.le_refl _, ?_⟩
      have hl : (tripsOf u l [sortS u.ns] w).length ≤ (zip3D ((wordsOf u l [sortS u.ns] w).map .str) (w.map hopD) (cutD (w.map hopD) (some 1) none)).length := by
        rw [cut_one w ok.wk.ge, zip3D_len, List.length_map, List.length_map, List.length_map]
        unfold tripsOf wordsOf
        rw [List.length_zipWith, List.length_zipWith]
        omega
      rw [List.take_of_length_le hl]; rfl
end
end DL
set_option Elab.async false
set_option linter.all false
set_option maxRecDepth 100000
set_option maxHeartbeats 2000000
/-! Ki: the state of draws. -/
namespace DL
open PySem L2
section
variable [Wld] {K : PySem.W.Frag} {a : Ad} {m n : Nat} {Γ : Gm} {te ta tb : TE} {t : TS} {tr : TA} {d x y : D} {E : XK} {R : Posts} {P : D → Prop}
/-- an item of the state -/
theorem f_st {i : Nat} {k : Nat} (h : Γ[i]? = some (.val .st)) (hk : k < 3) : DF K (tOp (rIxX K) (tVar i) (tC (.int (k : Nat)))) Γ n (fun d => ∃ z : Int, d = .int z ∧ (k = 2 → 0 ≤ z ∧ z ≤ 1000000)) := by
  intro m B H σ le sg Q kk
  obtain ⟨v, e, hi⟩ := sg.val i _ h
  obtain ⟨b, rfl, hb, x, y, z, e1, z0, z1⟩ := is_st hi (le.mono (by omega) : Le m B H)
  refine ⟨_, e, ?_⟩
  have q : ∃ w, atI [V.int x, V.int y, V.int z] ((k : Nat) : Int) = some (.int w) ∧ (k = 2 → w = z) := by
    match k, hk with
    | 0, _ => exact ⟨x, rfl, fun h => nomatch h⟩
    | 1, _ => exact ⟨y, rfl, fun h => absurd h (by decide)⟩
    | 2, _ => exact ⟨z, rfl, fun _ => rfl⟩
  obtain ⟨w, hw, hw2⟩ := q
  refine .inl (.inl ⟨b, _, _, _, rfl, rfl, .inl (.inl e1), hw, kk _ B H (.int w) (Go.refl B H) (le.mono (by omega)) (.int w) ⟨w, rfl, fun h => by rw [hw2 h]; exact ⟨z0, by have : most = 1000000 := rfl; omega⟩⟩⟩)
/-- the state is written -/
theorem st_write {B0 B : Kn} {H0 H : Hp} {σ : L2.St} {m' : Nat} {b : Addr} {x y z x' y' z' : Int} (s : At K B0 H0 m B H σ Γ) (hb : B b = some .st) (e : H b = some (.lst [.int x, .int y, .int z])) (z0 : 0 ≤ z') (zm : z' + m' ≤ most) (hm : m' ≤ m) : At K B0 H0 m' B (upd H b (.lst [.int x', .int y', .int z'])) σ Γ := by
  refine ⟨⟨s.go.b, fun c o e0 k => ?_, fun c o u e0 => ?_⟩, fun c f k => ?_, ?_, s.fr⟩
  · obtain ⟨q1, q2⟩ := s.go.h c o e0 k
    have ne : c ≠ b := fun q => by rw [q, hb] at q2; cases q2
    rw [upd_ne ne]; exact ⟨q1, q2⟩
  · have q1 := s.go.z c o u e0
    have ne : c ≠ b := fun q => by rw [q, e] at q1; cases q1
    rw [upd_ne ne]; exact q1
  · by_cases q : c = b
    · subst q; rw [hb] at k; cases k
      exact ⟨x', y', z', upd_same, z0, zm⟩
    · have w := (s.le.mono hm) c f k
      cases f with
      | fz o => unfold Has at w ⊢; rw [upd_ne q]; exact w
      | st => unfold Has at w ⊢; rw [upd_ne q]; exact w
  · refine ⟨s.sg.len, s.sg.val, fun j d p h => (s.sg.mt j d p h).imp fun c ⟨h1, h2, h3⟩ => ⟨h1, h2.keep (fun _ _ z => z) h2.none (fun o ho => ?_), h3⟩, s.sg.sep⟩
    rw [upd_ne fun q => by rw [q] at h2; rw [h2.none] at hb; cases hb]; exact ho
/-- state[0] = .. -/
theorem s_st0 {i : Nat} (h : Γ[i]? = some (.val .st)) (hd : DF K te Γ n P) (hp : ∀ d, P d → ∃ w : Int, d = .int w) (k : R.nx Γ m) : DS K (tAsg te (gSub (tVar i) (tC (.int 0)) rSetL)) Γ (m + n) R := by
  intro B0 H0 B H σ E s ok
  refine hd m B H σ s.le s.sg _ fun v B1 H1 d g le1 hi p => ?_
  obtain ⟨w, rfl⟩ := hp d p
  cases hi
  have s1 := s.step g le1
  obtain ⟨v, e, hi⟩ := s1.sg.val i _ h
  obtain ⟨b, rfl, hb, x, y, z, e1, z0, z1⟩ := is_st hi le1
  refine ⟨_, e, b, _, 0, 0, rfl, rfl, e1, rfl, ?_⟩
  exact ok.nx m B1 _ σ Γ (st_write (x' := w) (y' := y) (z' := z) s1 hb e1 z0 z1 (Nat.le_refl _)) k
/-- state[2] = state[2] + 1 -/
theorem s_st2 {i : Nat} (h : Γ[i]? = some (.val .st)) (k : R.nx Γ m) : DS K (tAsg (tOp (rAddX K) (tOp (rIxX K) (tVar i) (tC (.int 2))) (tC (.int 1))) (gSub (tVar i) (tC (.int 2)) rSetL)) Γ (m + 1) R := by
  intro B0 H0 B H σ E s ok
  obtain ⟨v, e, hi⟩ := s.sg.val i _ h
  obtain ⟨b, rfl, hb, x, y, z, e1, z0, z1⟩ := is_st hi s.le
  refine ⟨_, e, .inl (.inl ⟨b, _, _, .int z, rfl, rfl, .inl (.inl e1), rfl, .inl ⟨_, _, rfl, rfl, ?_⟩⟩)⟩
  refine ⟨_, e, b, _, 2, 2, rfl, rfl, e1, rfl, ?_⟩
  exact ok.nx m B _ σ Γ (st_write (x' := x) (y' := y) (z' := z + 1) s hb e1 (by omega) (by have : most = 1000000 := rfl; push_cast at z1; omega) (Nat.le_succ _)) k
/-! ### _law_draw -/
def N__law_draw : List Str := ["state", "size", "found"]
def t__law_draw [Wld] (K : PySem.W.Frag) (a : Ad) : TS := (tSeq (tIfS (tTest (tOp (rGtX) (tOp (rIxX K) (tVar 0) (tC (.int 0))) (tC (.int 0)))) (tSeq (tAsg (tOp (rModI) (tCB (rIntX) (tCons (tOp (rIxX K) (tVar 0) (tC (.int 0))) tNil)) (tVar 1)) (gName 2)) (tSeq (tAsg (tOp (rDivI) (tOp (rIxX K) (tVar 0) (tC (.int 0))) (tVar 1)) (gSub (tVar 0) (tC (.int 0)) rSetL)) (tRet (tVar 2)))) tNext) (tSeq (tAsg (tOp (rAddX K) (tOp (rIxX K) (tVar 0) (tC (.int 2))) (tC (.int 1))) (gSub (tVar 0) (tC (.int 2)) rSetL)) (tSeq (tAsg (tOp (rAddX K) (tOp (rModI) (tCB (rIntX) (tCons (tOp (rIxX K) (tVar 0) (tC (.int 1))) tNil)) (tC (.int 2147483629))) (tOp (rMulX) (tC (.int 104729)) (tOp (rIxX K) (tVar 0) (tC (.int 2))))) (gName 2)) (tSeq (tAsg (tOp (rMulX) (tVar 2) (tOp (rAddX K) (tOp (rAddX K) (tOp (rModI) (tCB (rIntX) (tCons (tOp (rIxX K) (tVar 0) (tC (.int 1))) tNil)) (tC (.int 2147483587))) (tOp (rMulX) (tOp (rMulX) (tC (.int 7919)) (tOp (rIxX K) (tVar 0) (tC (.int 2)))) (tOp (rIxX K) (tVar 0) (tC (.int 2))))) (tC (.int 11)))) (gName 2)) (tRet (tOp (rModI) (tCB (rIntX) (tCons (tOp (rDivI) (tOp (rModI) (tCB (rIntX) (tCons (tOp (rPowI) (tVar 2) (tC (.int 3))) tNil)) (tC (.int 2147483647))) (tC (.int 11))) tNil)) (tVar 1)))))))
def C_law_draw : Ct := fun ds P => ∃ k : Nat, ds = [.st, .int k] ∧ 0 < k ∧ k < 1000000 ∧ P = fun d => ∃ i : Nat, i < k ∧ d = .int i
abbrev sp__law_draw (K : PySem.W.Frag) (a : Ad) : Sp := spF K 1 C_law_draw
theorem log2_lt {i : Int} {b : Nat} (h : i.natAbs < 2 ^ b) (hb : 0 < b) : i.natAbs.log2 < b := by
  by_cases h0 : i.natAbs = 0
  · rw [h0]; simpa using hb
  · exact (Nat.log2_lt h0).mpr h
theorem int_mod {i : Int} {k : Nat} (hk : 0 < k) : ∃ j : Nat, j < k ∧ i % (k : Int) = (j : Int) := by
  have h0 := Int.emod_nonneg i (show (k : Int) ≠ 0 by omega)
  have h1 := Int.emod_lt_of_pos i (show (0 : Int) < k by omega)
  exact ⟨(i % (k : Int)).toNat, by omega, by omega⟩
theorem f_int (h : DF K te Γ n (fun d => ∃ z : Int, d = .int z)) : DF K (tCB rIntX (tCons te tNil)) Γ n (fun d => ∃ z : Int, d = .int z) :=
  f_cb ok_int h.r fun x ⟨z, e⟩ => ⟨.int z, by rw [e]; rfl, z, rfl⟩
theorem bd__law_draw (T : Tc K a) : ∀ {vs H Q E}, sp__law_draw K a vs H Q E → t__law_draw K a { nx := fun _ H' => Q .non H', rt := Q } (L2.start N__law_draw vs) H := body_F fun ds P m c => by
  obtain ⟨k, rfl, k0, k1, rfl⟩ := c
  show DS K _ [.val .st, .val (.int k), .no] (m + 1) _
  unfold t__law_draw
  have kl : ((k : Int)).natAbs.log2 < 9000 := by
    refine Nat.lt_of_lt_of_le (log2_lt (b := 20) ?_ (by omega)) (by omega)
    have : ((k : Int)).natAbs = k := by omega
    rw [this]; omega
  have st0 : ∀ {Γ : Gm}, Γ[0]? = some (.val .st) → DF K (tOp (rIxX K) (tVar 0) (tC (.int 0))) Γ 0 (fun d => ∃ z : Int, d = .int z) := fun h => (f_st (k := 0) h (by omega)).imp fun d ⟨z, e, _⟩ => ⟨z, e⟩
  have st1 : ∀ {Γ : Gm}, Γ[0]? = some (.val .st) → DF K (tOp (rIxX K) (tVar 0) (tC (.int 1))) Γ 0 (fun d => ∃ z : Int, d = .int z) := fun h => (f_st (k := 1) h (by omega)).imp fun d ⟨z, e, _⟩ => ⟨z, e⟩
  have st2 : ∀ {Γ : Gm}, Γ[0]? = some (.val .st) → DF K (tOp (rIxX K) (tVar 0) (tC (.int 2))) Γ 0 (fun d => ∃ z : Int, d = .int z ∧ 0 ≤ z ∧ z ≤ 1000000) := fun h => (f_st (k := 2) h (by omega)).imp fun d ⟨z, e, q⟩ => ⟨z, e, q rfl⟩
  refine s_seq (s_if (n := 0) (Pb := fun _ => True) (t_test (P := fun d => ∃ b : Bool, d = .bl b) (f_op (n1 := 0) (n2 := 0) ok_gt (st0 rfl).r c_int.r fun x y ⟨z, e1⟩ e2 => ⟨.bl (decide ((0 : Int) < z)), by rw [e1, e2]; rfl, _, rfl⟩) fun d ⟨b, e⟩ => ⟨b, e, trivial⟩) (fun _ => ?_) fun _ => s_next ?_)
  · refine s_seq (s_set (n := 0) (P := fun d => ∃ i : Nat, i < k ∧ d = .int i) (f_op (n1 := 0) (n2 := 0) ok_mod (f_int (st0 rfl)).r (f_var rfl).r fun x y ⟨z, e1⟩ e2 => ?_) fun d ⟨i, hi, e⟩ => ?_)
    · obtain ⟨j, hj, e⟩ := int_mod (i := z) k0
      refine ⟨.int j, ?_, j, hj, rfl⟩
      rw [e1, e2, ← e]
      show (if (0 : Int) < (k : Int) then some (D.int (z % k)) else none) = _
      rw [if_pos (by omega)]
    · subst e
      refine s_seq (s_st0 (n := 0) (P := fun d => ∃ w : Int, d = .int w) rfl (f_op (n1 := 0) (n2 := 0) ok_div (st0 rfl).r (f_var rfl).r fun x y ⟨z, e1⟩ e2 => ⟨.int (z / k), ?_, _, rfl⟩) (fun _ h => h) ?_)
      · rw [e1, e2]
        show (if (0 : Int) < (k : Int) ∧ ((k : Int)).natAbs.log2 < 9000 then some (D.int (z / k)) else none) = _
        rw [if_pos ⟨by omega, kl⟩]
      · exact es_ret (f_var rfl) ⟨Nat.le_succ _, i, hi, rfl⟩
  · refine s_seq (s_st2 rfl ?_)
    have modc : ∀ {Γ : Gm} {q : Nat}, Γ[0]? = some (.val .st) → 0 < q → q < 2 ^ 31 → DF K (tOp rModI (tCB rIntX (tCons (tOp (rIxX K) (tVar 0) (tC (.int 1))) tNil)) (tC (.int (q : Nat)))) Γ 0 (fun d => ∃ j : Nat, d = .int j ∧ j < 2 ^ 31) := fun {Γ q} h q0 q1 =>
      f_op (n1 := 0) (n2 := 0) ok_mod (f_int (st1 h)).r c_int.r fun x y ⟨z, e1⟩ e2 => by
        obtain ⟨j, hj, e⟩ := int_mod (i := z) q0
        refine ⟨.int j, ?_, j, rfl, by omega⟩
        rw [e1, e2, ← e]
        show (if (0 : Int) < (q : Int) then some (D.int (z % q)) else none) = _
        rw [if_pos (by omega)]
    have mulc : ∀ {i j : Nat}, i < 2 ^ 200 → j < 2 ^ 200 → mulF (.int (i : Nat)) (.int (j : Nat)) = some (.int ((i * j : Nat) : Int)) := fun {i j} hi hj => by
      show (if ((i : Nat) : Int).natAbs.log2 + ((j : Nat) : Int).natAbs.log2 < 1000000 then some (D.int ((i : Int) * (j : Int))) else none) = _
      have h1 := log2_lt (i := ((i : Nat) : Int)) (b := 200) (by rw [Int.natAbs_natCast]; exact hi) (by omega)
      have h2 := log2_lt (i := ((j : Nat) : Int)) (b := 200) (by rw [Int.natAbs_natCast]; exact hj) (by omega)
      rw [if_pos (by omega), Int.natCast_mul]
    have st2n : ∀ {Γ : Gm}, Γ[0]? = some (.val .st) → DF K (tOp (rIxX K) (tVar 0) (tC (.int 2))) Γ 0 (fun d => ∃ z : Nat, d = .int z ∧ z ≤ 1000000) := fun h => (st2 h).imp fun d ⟨z, e, h0, h1⟩ => ⟨z.toNat, by rw [e]; congr 1; omega, by omega⟩
    refine s_seq (s_set (n := 0) (P := fun d => ∃ w : Nat, d = .int w ∧ w < 2 ^ 40) (f_op (n1 := 0) (n2 := 0) ok_add (modc (q := 2147483629) rfl (by omega) (by omega)).r (f_op (n1 := 0) (n2 := 0) (P := fun d => ∃ w : Nat, d = .int w ∧ w < 2 ^ 38) ok_mul c_int.r (st2n rfl).r fun x y e1 ⟨z, e2, hz⟩ => ⟨.int ((104729 * z : Nat) : Int), by rw [e1, e2]; exact mulc (i := 104729) (j := z) (by omega) (by omega), _, rfl, by omega⟩).r fun x y ⟨u, e1, hu⟩ ⟨v, e2, hv⟩ => ⟨.int ((u + v : Nat) : Int), by rw [e1, e2]; show some (D.int ((u : Int) + (v : Int))) = _; rw [Int.natCast_add], _, rfl, by omega⟩) fun d ⟨w1, e, hw1⟩ => ?_)
    subst e
    refine s_seq (s_set (n := 0) (P := fun d => ∃ w : Nat, d = .int w ∧ w < 2 ^ 100) (f_op (n1 := 0) (n2 := 0) ok_mul (f_var rfl).r (f_op (n1 := 0) (n2 := 0) (P := fun d => ∃ w : Nat, d = .int w ∧ w < 2 ^ 60) ok_add (f_op (n1 := 0) (n2 := 0) (P := fun d => ∃ w : Nat, d = .int w ∧ w < 2 ^ 58) ok_add (modc (q := 2147483587) rfl (by omega) (by omega)).r (f_op (n1 := 0) (n2 := 0) (P := fun d => ∃ w : Nat, d = .int w ∧ w < 2 ^ 56) ok_mul (f_op (n1 := 0) (n2 := 0) (P := fun d => ∃ w : Nat, d = .int w ∧ w ≤ 7919000000) ok_mul c_int.r (st2n rfl).r fun x y e1 ⟨z, e2, hz⟩ => ⟨.int ((7919 * z : Nat) : Int), by rw [e1, e2]; exact mulc (i := 7919) (j := z) (by omega) (by omega), _, rfl, by omega⟩).r (st2n rfl).r fun x y ⟨p, e1, hp⟩ ⟨z, e2, hz⟩ => ⟨.int ((p * z : Nat) : Int), by rw [e1, e2]; exact mulc (by omega) (by omega), _, rfl, Nat.lt_of_le_of_lt (Nat.mul_le_mul hp hz) (by omega)⟩).r fun x y ⟨p, e1, hp⟩ ⟨z, e2, hz⟩ => ⟨.int ((p + z : Nat) : Int), by rw [e1, e2]; show some (D.int ((p : Int) + (z : Int))) = _; rw [Int.natCast_add], _, rfl, by omega⟩).r c_int.r fun x y ⟨p, e1, hp⟩ e2 => ⟨.int ((p + 11 : Nat) : Int), by rw [e1, e2]; show some (D.int ((p : Int) + 11)) = _; rw [Int.natCast_add]; rfl, _, rfl, by omega⟩).r fun x y e1 ⟨p, e2, hp⟩ => ⟨.int ((w1 * p : Nat) : Int), by rw [e1, e2]; exact mulc (by omega) (by omega), _, rfl, Nat.lt_of_lt_of_le (Nat.mul_lt_mul'' hw1 hp) (by rw [← Nat.pow_add]; exact Nat.le_refl _)⟩) fun d ⟨w2, e, hw2⟩ => ?_)
    subst e
    have hpow : DF K (tOp rPowI (tVar 2) (tC (.int 3))) [.val .st, .val (.int (k : Nat)), .val (.int (w2 : Nat))] 0 (fun d => ∃ z : Int, d = .int z) := f_op (n1 := 0) (n2 := 0) ok_pow (f_var rfl).r c_int.r fun x y e1 e2 => by
      refine ⟨.int ((w2 : Int) ^ 3), ?_, _, rfl⟩
      rw [e1, e2]
      show (if (0 : Int) ≤ 3 ∧ (Builtin.Int.intBits (w2 : Int) : Int) * 3 ≤ 2 ^ 27 then some (D.int ((w2 : Int) ^ (3 : Int).toNat)) else none) = _
      have hb : Builtin.Int.intBits (w2 : Int) ≤ 101 := by
        unfold Builtin.Int.intBits
        split
        · omega
        · have := log2_lt (i := (w2 : Int)) (b := 100) (by rw [Int.natAbs_natCast]; exact hw2) (by omega)
          omega
      rw [if_pos ⟨by omega, by omega⟩]; rfl
    have hm : DF K (tOp rModI (tCB rIntX (tCons (tOp rPowI (tVar 2) (tC (.int 3))) tNil)) (tC (.int 2147483647))) [.val .st, .val (.int (k : Nat)), .val (.int (w2 : Nat))] 0 (fun d => ∃ z : Int, d = .int z) := f_op (n1 := 0) (n2 := 0) ok_mod (f_int hpow).r c_int.r fun x y ⟨z, e1⟩ e2 => ⟨.int (z % 2147483647), by rw [e1, e2]; rfl, _, rfl⟩
    have hdv : DF K (tOp rDivI (tOp rModI (tCB rIntX (tCons (tOp rPowI (tVar 2) (tC (.int 3))) tNil)) (tC (.int 2147483647))) (tC (.int 11))) [.val .st, .val (.int (k : Nat)), .val (.int (w2 : Nat))] 0 (fun d => ∃ z : Int, d = .int z) := f_op (n1 := 0) (n2 := 0) ok_div hm.r c_int.r fun x y ⟨z, e1⟩ e2 => ⟨.int (z / 11), by rw [e1, e2]; show (if (0 : Int) < 11 ∧ (11 : Int).natAbs.log2 < 9000 then some (D.int (z / 11)) else none) = _; rw [if_pos ⟨by omega, log2_lt (b := 4) (by decide) (by omega) |> fun h => Nat.lt_of_lt_of_le h (by omega)⟩], _, rfl⟩
    refine s_ret (n := 0) (P := fun d => ∃ i : Nat, i < k ∧ d = .int i) (f_op (n1 := 0) (n2 := 0) ok_mod (f_int hdv).r (f_var rfl).r fun x y ⟨z, e1⟩ e2 => ?_) fun d h => ⟨Nat.le_refl _, h⟩
    obtain ⟨j, hj, e⟩ := int_mod (i := z) k0
    refine ⟨.int j, ?_, j, hj, rfl⟩
    rw [e1, e2, ← e]
    show (if (0 : Int) < (k : Int) then some (D.int (z % k)) else none) = _
    rw [if_pos (by omega)]
end
end DL
set_option Elab.async false
set_option linter.all false
set_option maxRecDepth 100000
set_option maxHeartbeats 2000000
/-! Kj: what the laws draw: picks, names, orders. -/
namespace DL
open PySem L2
section
variable [Wld] {K : PySem.W.Frag} {a : Ad} {m n : Nat} {Γ : Gm} {te ta tb : TE} {t : TS} {tr : TA} {d x y : D} {E : XK} {R : Posts} {P : D → Prop}
/-! ### _law_begin -/
def N__law_begin : List Str := ["cell", "turn"]
def t__law_begin [Wld] (K : PySem.W.Frag) (a : Ad) : TS := (tRet (tLst (tCons (tCB (rMax2) (tCons (tC (.int 0)) (tCons (tOp (rSubI) (tVar 0) (tOp (rPowI) (tC (.int 10)) (tC (.int 18)))) tNil))) (tCons (tOp (rAddX K) (tVar 0) (tOp (rMulX) (tC (.int 977)) (tVar 1))) (tCons (tC (.int 0)) tNil)))))
/-- a new state, within the draws that are left in all -/
def spB (K : PySem.W.Frag) : Sp := fun vs H Q _ => ∃ (m : Nat) (B : Kn) (c k : Int), Le m B H ∧ (m : Int) ≤ most ∧ IsL K B vs [.int c, .int k] ∧ ((977 : Int).natAbs.log2 + k.natAbs.log2 < 1000000) ∧ ∀ v B' H', Go B H B' H' → Le m B' H' → Is K B' v .st → Q v H'
abbrev sp__law_begin (K : PySem.W.Frag) (a : Ad) : Sp := spB K
theorem bd__law_begin (T : Tc K a) : ∀ {vs H Q E}, sp__law_begin K a vs H Q E → t__law_begin K a { nx := fun _ H' => Q .non H', rt := Q } (L2.start N__law_begin vs) H := by
  rintro vs H Q E ⟨m, B, c, k, le, hm, r, hk, kk⟩
  have sg := start_sg (N := N__law_begin) (H := H) r
  have h : DW K (tLst (tCons (tCB (rMax2) (tCons (tC (.int 0)) (tCons (tOp (rSubI) (tVar 0) (tOp (rPowI) (tC (.int 10)) (tC (.int 18)))) tNil))) (tCons (tOp (rAddX K) (tVar 0) (tOp (rMulX) (tC (.int 977)) (tVar 1))) (tCons (tC (.int 0)) tNil)))) (startG N__law_begin [.int c, .int k]) 0 (fun d => ∃ x y : Int, d = .lst [.int x, .int y, .int 0]) := by
    have hp : powF (.int 10) (.int 18) = some (.int (10 ^ 18)) := by
      show (if (0 : Int) ≤ 18 ∧ (Builtin.Int.intBits 10 : Int) * 18 ≤ 2 ^ 27 then some (D.int ((10 : Int) ^ (18 : Int).toNat)) else none) = _
      rw [if_pos (by decide +kernel)]; rfl
    have hmul : mulF (.int 977) (.int k) = some (.int (977 * k)) := by
      show (if (977 : Int).natAbs.log2 + k.natAbs.log2 < 1000000 then some (D.int (977 * k)) else none) = _
      rw [if_pos hk]
    exact (ew_lst (ea_cons (e_cb2 ok_max c_int.r (e_op ok_sub (f_var rfl).r (e_op ok_pow c_int.r c_int.r hp).r rfl).r) (ea_cons (e_op ok_add (f_var rfl).r (e_op ok_mul c_int.r (f_var rfl).r hmul).r rfl) (ea_cons c_int a_nil))) (by show 3 ≤ 1000; omega)).imp fun d e => ⟨_, _, e⟩
  refine h m B H _ le sg _ fun b B1 H1 d g le1 hn ow ⟨x, y, e⟩ => ?_
  subst e
  obtain ⟨hb, vs1, e1, r1⟩ := ow
  cases r1 with
  | cons i1 r1 => cases r1 with
    | cons i2 r1 => cases r1 with
      | cons i3 r1 =>
        cases i1; cases i2; cases i3; cases r1
        refine kk (.ref b) (fun c => if c = b then some .st else B1 c) H1 ⟨fun c f q => ?_, fun c o q k => ?_, g.z⟩ (fun c f q => ?_) (.st (if_pos rfl))
        · have ne : c ≠ b := fun h => by rw [h] at q; have := g.b b f q; rw [hb] at this; cases this
          show (if c = b then some FO.st else B1 c) = _
          rw [if_neg ne]; exact g.b c f q
        · have ne : c ≠ b := fun h => by rw [h, hn] at q; cases q
          refine ⟨(g.h c o q k).1, ?_⟩
          show (if c = b then some FO.st else B1 c) = _
          rw [if_neg ne]; exact (g.h c o q k).2
        · have q : (if c = b then some FO.st else B1 c) = some f := q
          by_cases h : c = b
          · rw [if_pos h] at q; cases q
            rw [h]; exact ⟨x, y, 0, e1, Int.le_refl _, by omega⟩
          · rw [if_neg h] at q; exact le1 c f q
theorem s_begin {i : Nat} {c k : Int} (h : DA K tr Γ 0 (· = [.int c, .int k])) (hm : (m : Int) ≤ most) (hk : (977 : Int).natAbs.log2 + k.natAbs.log2 < 1000000) (r : R.nx (Γ.set i (.val .st)) m) : DS K (tAsg (tCall (sp__law_begin K a) [] E tr) (gName i)) Γ m R := by
  intro B0 H0 B H σ E s ok
  refine h m B H σ s.le s.sg _ fun vs B1 H1 es g1 le1 hs p => ?_
  subst p
  refine ⟨m, B1, c, k, le1, hm, by rw [List.append_nil]; exact hs, hk, fun v B2 H2 g2 le2 hi => ?_⟩
  exact ok.nx m B2 H2 _ _ ((s.step (g1.trans g2) le2).setVal i hi) r
/-! ### _law_pick -/
def elems : D → Option (List D)
  | .lst l => some l
  | .tup l => some l
  | .str s => if s.length ≤ 1000 then some (sgD s) else none
  | _ => none
def N__law_pick : List Str := ["state", "some"]
def t__law_pick [Wld] (K : PySem.W.Frag) (a : Ad) : TS := (tRet (tOp (rIxX K) (tVar 1) (tCall (sp__law_draw K a) [] E0 (tCons (tVar 0) (tCons (tCB (rLenX K) (tCons (tVar 1) tNil)) tNil)))))
def C_law_pick : Ct := fun ds P => ∃ x l, ds = [.st, x] ∧ elems x = some l ∧ l ≠ [] ∧ l.length < 1000000 ∧ P = (· ∈ l)
abbrev sp__law_pick (K : PySem.W.Frag) (a : Ad) : Sp := spF K 1 C_law_pick
theorem elems_len {l : List D} (h : elems x = some l) : lenF x = some (.int l.length) := by
  cases x <;> try (cases h; done)
  · unfold elems at h; dsimp only at h
    split at h
    · cases h
      rename_i s hs
      rw [lenF_str hs]
      unfold sgD; rw [List.length_map, Array.length_toList]; rfl
    · cases h
  · cases h; rfl
  · cases h; rfl
theorem elems_ix {l : List D} {i : Nat} (h : elems x = some l) (hi : i < l.length) : ∃ z, ixF x (.int (i : Nat)) = some z ∧ z ∈ l := by
  cases x <;> try (cases h; done)
  · unfold elems at h; dsimp only at h
    split at h
    · cases h
      rename_i s hs
      have hi' : i < s.cps.toList.length := by unfold sgD at hi; rw [List.length_map] at hi; exact hi
      refine ⟨.str ⟨#[s.cps.toList[i]]⟩, ?_, List.mem_map.mpr ⟨_, List.getElem_mem hi', rfl⟩⟩
      show (if s.length ≤ sizeLine then (atI s.cps.toList ((i : Nat) : Int)).map fun c => D.str ⟨#[c]⟩ else none) = _
      rw [if_pos (by rw [sizeLine_eq]; omega), atI_nat (List.getElem?_eq_getElem hi')]; rfl
    · cases h
  · cases h; exact ⟨_, ix_lst (List.getElem?_eq_getElem hi), List.getElem_mem hi⟩
  · cases h; exact ⟨_, ix_tup (List.getElem?_eq_getElem hi), List.getElem_mem hi⟩
theorem bd__law_pick (T : Tc K a) : ∀ {vs H Q E}, sp__law_pick K a vs H Q E → t__law_pick K a { nx := fun _ H' => Q .non H', rt := Q } (L2.start N__law_pick vs) H := body_F fun ds P m c => by
  obtain ⟨x, l, rfl, hx, hne, hl, rfl⟩ := c
  have hp := List.length_pos_iff.mpr hne
  exact s_ret (n := 1) (f_op (n1 := 0) (n2 := 1) ok_ix (f_var rfl).r (e_call (n := 1) (P := fun d => ∃ i : Nat, i < l.length ∧ d = .int i) (ea_cons (f_var rfl) (ea_cons (e_cb ok_len (f_var rfl).r (elems_len hx)) a_nil)) ⟨l.length, rfl, hp, hl, rfl⟩).r fun u v e1 ⟨i, hi, e2⟩ => by
    subst e1; subst e2
    exact elems_ix hx hi) fun d h => ⟨Nat.le_refl _, h⟩
/-! ### _law_names -/
theorem f_join {ys : D → List Str → Prop} (h : DR K te Γ n P) (hy : ∀ d, P d → ∃ ss : List Str, d = .lst (ss.map .str) ∧ (ss.map (·.length)).sum ≤ 10000 ∧ ys d ss) : DF K (tBM K "str" (rJoinX K) (tC (.str "")) (tCons te tNil)) Γ n (fun r => ∃ d ss, P d ∧ ys d ss ∧ r = .str (Txt.join "" ss)) := by
  intro m B H σ le sg Q k
  refine ⟨rfl, h m B H σ le sg _ fun v B1 H1 x g1 le1 r1 p1 => ?_⟩
  obtain ⟨ss, rfl, hs, q⟩ := hy x p1
  obtain ⟨b, vs, rfl, e1, r⟩ := rv_lst r1 le1
  have e := r.strs
  subst e
  refine ⟨"", b, ss, rfl, rfl, .inl (.inl (.inl e1)), ?_, k _ B1 H1 _ g1 le1 (.str _) ⟨_, ss, p1, q, rfl⟩⟩
  have : (("" : Str)).length = 0 := rfl
  rw [this]; omega
def signsQ : Str := "qjxzetaoinshrdlcumwfgypbvk"
theorem join_cps : ∀ l : List Str, (Str.join "" l).cps.toList = (l.map (·.cps.toList)).flatten
  | [] => rfl
  | [x] => by rw [List.map_cons, List.flatten_cons]; simp [Str.join]
  | x :: y :: l => by
    show (x ++ "" ++ Str.join "" (y :: l)).cps.toList = _
    rw [PySem.Str.cps_append, PySem.Str.cps_append, List.map_cons, List.flatten_cons, Array.toList_append, Array.toList_append, join_cps (y :: l)]
    show x.cps.toList ++ [] ++ _ = _
    rw [List.append_nil]
theorem txt_join (l : List Str) : (Txt.join "" l).cps.toList = (l.map (·.cps.toList)).flatten := by
  show (Builtin.Str.glued "" l).cps.toList = _
  rw [PySem.StrLaws.glued_eq_join]; exact join_cps l
structure NamesOk (k : Nat) (l : List Str) : Prop where
  len : l.length = k
  ok : ∀ s ∈ l, NameOk s
  nd : l.Nodup
theorem alls_signs {q : Str} : ∀ {ds es : List D}, Alls (fun _ e => e ∈ sgD q) ds es → ∃ ss : List Str, es = ss.map .str ∧ ss.length = ds.length ∧ ∀ s ∈ ss, ∃ c ∈ q.cps.toList, s = ⟨#[c]⟩
  | _, _, .nil => ⟨[], rfl, rfl, fun s h => nomatch h⟩
  | _, _, .cons h r => by
    obtain ⟨ss, e1, e2, e3⟩ := alls_signs r
    obtain ⟨c, hc, e⟩ := List.mem_map.mp h
    refine ⟨⟨#[c]⟩ :: ss, by rw [e1, ← e]; rfl, by rw [List.length_cons, List.length_cons, e2], fun s hs => ?_⟩
    rcases List.mem_cons.mp hs with hs | hs
    · exact ⟨c, hc, hs⟩
    · exact e3 s hs
theorem sum_ones : ∀ {l : List Str}, (∀ s ∈ l, s.length = 1) → (l.map (fun x : Str => x.length)).sum = l.length
  | [], _ => rfl
  | x :: l, h => by
    rw [List.map_cons, List.sum_cons, h x (List.mem_cons_self ..), sum_ones fun s hs => h s (List.mem_cons_of_mem _ hs), List.length_cons]; omega
def N__law_names : List Str := ["state", "many", "signs", "first", "found", "at", "name", "sign"]
def t__law_names [Wld] (K : PySem.W.Frag) (a : Ad) : TS := (tSeq (tAsg (tTup (tCons (tC (.str "qjxzetaoinshrdlcumwfgypbvk")) (tCons (tCall (sp__law_draw K a) [] E0 (tCons (tVar 0) (tCons (tC (.int 26)) tNil))) tNil))) (gTup K 2 (gCons (gName 2) (gCons (gName 3) gNil)))) (tSeq (tAsg (tLst tNil) (gName 4)) (tSeq (tFor (iRng1 (tCons (tVar 1) tNil)) (gName 5) (tSeq (tAsg (tBM K "str" (rJoinX K) (tC (.str "")) (tCons (tLc (iRng1 (tCons (tCall (sp__law_draw K a) [] E0 (tCons (tVar 0) (tCons (tC (.int 6)) tNil))) tNil)) (gName 7) tYes (tCall (sp__law_pick K a) [] E0 (tCons (tVar 0) (tCons (tVar 2) tNil))) [7]) tNil)) (gName 6)) (tDrop (tBM K "list" rAppend (tVar 4) (tCons (tOp (rAddX K) (tVar 6) (tOp (rIxX K) (tVar 2) (tOp (rModI) (tCB (rIntX) (tCons (tOp (rAddX K) (tVar 3) (tOp (rMulX) (tC (.int 7)) (tVar 5))) tNil)) (tC (.int 26))))) tNil))))) (tRet (tVar 4)))))
def C_law_names : Ct := fun ds P => ∃ k : Nat, ds = [.st, .int k] ∧ k ≤ 20 ∧ P = fun d => ∃ l, d = strsL l ∧ NamesOk k l
abbrev sp__law_names (K : PySem.W.Frag) (a : Ad) : Sp := spF K 130 C_law_names
theorem str_len (s : Str) : s.length = s.cps.toList.length := by rw [Array.length_toList]; rfl
theorem bd__law_names (T : Tc K a) : ∀ {vs H Q E}, sp__law_names K a vs H Q E → t__law_names K a { nx := fun _ H' => Q .non H', rt := Q } (L2.start N__law_names vs) H := body_F fun ds P m c => by
  obtain ⟨k, rfl, hk, rfl⟩ := c
  show DS K _ [.val .st, .val (.int k), .no, .no, .no, .no, .no, .no] (m + 129 + 1) _
  unfold t__law_names
  have hsg : elems (.str signsQ) = some (sgD signsQ) := by unfold elems; exact if_pos (by decide +kernel)
  have hsl : signsQ.cps.toList.length = 26 := by decide +kernel
  have hsub : ∀ c ∈ signsQ.cps.toList, c ∈ letters := by decide +kernel
  have hnd : signsQ.cps.toList.Nodup := by decide +kernel
  refine s_seq (s_tgt (n := 1) (P := fun d => ∃ f : Nat, f < 26 ∧ d = .tup [.str signsQ, .int f]) ((f_tup (a_cons (n1 := 0) (n2 := 1) (c_str (s := signsQ)) (a_cons (n1 := 1) (n2 := 0) (e_call (n := 1) (P := fun d => ∃ i : Nat, i < 26 ∧ d = .int i) (ea_cons (f_var rfl) (ea_cons c_int a_nil)) ⟨26, rfl, by omega, by omega, rfl⟩) a_nil)) (fun ds ⟨_, _, e, _, _, _, e2, _, e3⟩ => by rw [e, e2, e3]; show 2 ≤ 1000; omega)).imp fun d ⟨ds, e, _, _, e1, e2, _, _, e3, ⟨f, hf, e4⟩, e5⟩ => ⟨f, hf, by rw [e, e1, e2, e3, e4, e5]⟩) fun d ⟨f, hf, e⟩ => ?_)
  subst e
  refine ⟨_, _, g_tup (gs_cons g_name (gs_cons g_name gs_nil)), ?_⟩
  refine s_seq (es_setW (ew_lst a_nil) ?_)
  refine s_seq (s_for (n := 0) (PL := (· = rngD 0 k)) (fun ds i Γ m' => m + 6 * (20 - i) ≤ m' ∧ ∃ l s5 s6, Γ = [.val .st, .val (.int k), .val (.str signsQ), .val (.int f), .ow (.lst (l.map .str)), s5, s6, .no] ∧ l.length = i ∧ (∀ s ∈ l, NameOk s) ∧ ∀ (j : Nat) (s : Str), l[j]? = some s → s.cps.toList.getLast? = signsQ.cps.toList[(f + 7 * j) % 26]?) (i_r1 (f_var (d := .int k) rfl) fun d e => ⟨k, e, by omega, by omega, by rw [Int.toNat_natCast]⟩) (fun ds e => ⟨by omega, [], .no, .no, rfl, rfl, fun s h => (nomatch h), fun j s h => by simp at h⟩) ?_ ?_)
  · rintro ds i d Γ' m' e hd ⟨hm, l, s5, s6, rfl, hl, hok, hlast⟩
    subst e
    have hik : i < k := by have := (List.getElem?_eq_some_iff.mp hd).1; rw [rngD_len] at this; exact this
    rw [rngD_get hik] at hd
    cases hd
    rw [Int.zero_add]
    refine ⟨_, _, g_name, s_less (m' := m + 6 * (20 - (i + 1)) + 6) (by omega) (s_seq (s_set (n := 6) (P := fun d => ∃ s : Str, d = .str s ∧ s.length ≤ 5 ∧ ∀ c ∈ s.cps.toList, c ∈ letters) ((f_join (P := fun r => ∃ ds es, ds.length ≤ 5 ∧ r = .lst es ∧ Alls (fun _ e => e ∈ sgD signsQ) ds es) (ys := fun d ss => ss.length ≤ 5 ∧ ∀ s ∈ ss, ∃ c ∈ signsQ.cps.toList, s = ⟨#[c]⟩) ((w_map (n := 1) (n2 := 1) (L := 5) (PL := fun ds => ds.length ≤ 5) (is := [7]) (R := fun _ e => e ∈ sgD signsQ) (i_r1 (e_call (n := 1) (P := fun d => ∃ i : Nat, i < 6 ∧ d = .int i) (ea_cons (f_var rfl) (ea_cons c_int a_nil)) ⟨6, rfl, by omega, by omega, rfl⟩) fun d ⟨i, hi, e⟩ => ⟨i, e, by omega, by omega, by rw [rngD_len, Int.toNat_natCast]; omega⟩) (fun ds h => h) (by omega) (by simp) fun ds i d _ _ => ⟨_, g_name, e_call (n := 1) (ea_cons (f_var rfl) (ea_cons (f_var rfl) a_nil)) ⟨.str signsQ, sgD signsQ, rfl, hsg, by unfold sgD; rw [ne_eq, List.map_eq_nil_iff, ← List.length_eq_zero_iff, hsl]; omega, by unfold sgD; rw [List.length_map, hsl]; omega, rfl⟩⟩).f.r) fun d ⟨ds, es, h5, e, al⟩ => ?_).imp fun r ⟨d, ss, _, ⟨h5, hc⟩, e⟩ => ⟨_, e, ?_, ?_⟩) fun d ⟨s, e, hs5, hsc⟩ => ?_))⟩
    · obtain ⟨ss, e1, e2, e3⟩ := alls_signs al
      refine ⟨ss, by rw [e, e1], ?_, by omega, e3⟩
      rw [sum_ones fun s hs => by obtain ⟨c, _, rfl⟩ := e3 s hs; rfl]; omega
    · rw [str_len, txt_join, List.length_flatten, List.map_map]
      rw [show (List.length ∘ fun x : Str => x.cps.toList) = (fun x : Str => x.length) from funext fun x => (str_len x).symm, sum_ones fun s hs => by obtain ⟨c, _, rfl⟩ := hc s hs; rfl]
      exact h5
    · intro c hcm
      rw [txt_join] at hcm
      obtain ⟨z, hz, hcz⟩ := List.mem_flatten.mp hcm
      obtain ⟨s, hs, rfl⟩ := List.mem_map.mp hz
      obtain ⟨c', hc', rfl⟩ := hc s hs
      have : c = c' := by simpa using hcz
      rw [this]; exact hsub c' hc'
    · subst e
      have hr : (f + 7 * i) % 26 < signsQ.cps.toList.length := by rw [hsl]; exact Nat.mod_lt _ (by omega)
      have hmul : mulF (.int 7) (.int (i : Nat)) = some (.int (7 * (i : Nat))) := by
        show (if (7 : Int).natAbs.log2 + ((i : Nat) : Int).natAbs.log2 < 1000000 then some (D.int (7 * (i : Int))) else none) = _
        have h1 := log2_lt (i := (7 : Int)) (b := 4) (by decide) (by omega)
        have h2 := log2_lt (i := ((i : Nat) : Int)) (b := 10) (by rw [Int.natAbs_natCast]; omega) (by omega)
        rw [if_pos (by omega)]
      have hix : ixF (.str signsQ) (.int (((f : Int) + 7 * (i : Int)) % 26)) = some (.str ⟨#[signsQ.cps.toList[(f + 7 * i) % 26]]⟩) := by
        have e : ((f : Int) + 7 * (i : Int)) % 26 = (((f + 7 * i) % 26 : Nat) : Int) := by omega
        rw [e]
        show (if signsQ.length ≤ sizeLine then (atI signsQ.cps.toList ((((f + 7 * i) % 26 : Nat)) : Int)).map fun c => D.str ⟨#[c]⟩ else none) = _
        rw [if_pos (by rw [str_len, hsl, sizeLine_eq]; omega), atI_nat (List.getElem?_eq_getElem hr)]; rfl
      generalize hch : signsQ.cps.toList[(f + 7 * i) % 26] = ch at hix
      have hadd : addF (.str s) (.str ⟨#[ch]⟩) = some (.str (s ++ ⟨#[ch]⟩)) := by
        show (if s.length + 1 ≤ sizeLine then some (D.str (s ++ ⟨#[ch]⟩)) else none) = _
        rw [if_pos (by rw [sizeLine_eq]; omega)]
      have hcps : (s ++ (⟨#[ch]⟩ : Str)).cps.toList = s.cps.toList ++ [ch] := by rw [PySem.Str.cps_append, Array.toList_append]
      refine es_app rfl (by rw [List.length_map]; omega) (e_op ok_add (f_var rfl).r (e_op ok_ix (f_var rfl).r (e_op ok_mod (e_cb ok_int (e_op ok_add (f_var rfl).r (e_op ok_mul c_int.r (f_var rfl).r hmul).r rfl).r rfl).r c_int.r rfl).r hix).r hadd) ⟨Nat.le_refl _, l ++ [s ++ ⟨#[ch]⟩], _, _, by rw [List.map_append]; rfl, by rw [List.length_append, hl]; rfl, fun q hq => ?_, fun j q hj => ?_⟩
      · rcases List.mem_append.mp hq with hq | hq
        · exact hok q hq
        · rw [List.mem_singleton.mp hq]
          have l1 : (s ++ (⟨#[ch]⟩ : Str)).length = s.length + 1 := by rw [str_len, hcps, List.length_append, ← str_len]; rfl
          refine ⟨by rw [l1]; omega, by rw [l1]; omega, fun c hc => ?_⟩
          rw [hcps] at hc
          rcases List.mem_append.mp hc with hc | hc
          · exact hsc c hc
          · rw [List.mem_singleton.mp hc, ← hch]; exact hsub _ (List.getElem_mem hr)
      · by_cases hji : j < i
        · rw [List.getElem?_append_left (by omega)] at hj
          exact hlast j q hj
        · have hj2 := (List.getElem?_eq_some_iff.mp hj).1
          rw [List.length_append, List.length_singleton] at hj2
          have ej : j = i := by omega
          subst ej
          rw [List.getElem?_append_right (by omega), hl, Nat.sub_self] at hj
          cases hj
          rw [hcps, List.getLast?_append, ← hch, List.getElem?_eq_getElem hr]; rfl
  · rintro ds Γ' m' e ⟨hm, l, s5, s6, rfl, hl, hok, hlast⟩
    subst e
    rw [rngD_len] at hl
    refine s_retO rfl ⟨by omega, l, rfl, hl, hok, List.pairwise_iff_getElem.mpr fun i j hi hj hij e => ?_⟩
    have h1 := hlast i _ (List.getElem?_eq_getElem hi)
    have h2 := hlast j _ (List.getElem?_eq_getElem hj)
    rw [e, h2] at h1
    have r1 : (f + 7 * i) % 26 < signsQ.cps.toList.length := by rw [hsl]; exact Nat.mod_lt _ (by omega)
    rw [List.getElem?_eq_getElem r1] at h1
    have := nd_ix hnd h1 (List.getElem?_eq_getElem r1)
    omega
end
end DL
set_option Elab.async false
set_option linter.all false
set_option maxRecDepth 100000
set_option maxHeartbeats 2000000
/-! Kk: drawn orders, hops, flows. -/
namespace DL
open PySem L2
section
variable [Wld] {K : PySem.W.Frag} {a : Ad} {m n : Nat} {Γ : Gm} {te ta tb : TE} {t : TS} {tr : TA} {d x y : D} {E : XK} {R : Posts} {P : D → Prop}
theorem seq_list {l : List D} (h : isSeq x = some l) : listF x = some (.lst l) := by
  cases x <;> try (cases h; done)
  · cases h; rfl
  · cases h; rfl
theorem seq_elems {l : List D} (h : isSeq x = some l) : elems x = some l := by
  cases x <;> try (cases h; done)
  · cases h; rfl
  · cases h; rfl
/-! ### _law_mixed -/
def N__law_mixed : List Str := ["state", "some", "left", "found", "at"]
def t__law_mixed [Wld] (K : PySem.W.Frag) (a : Ad) : TS := (tSeq (tPar 2 3 (tCons (tCB (rListX K) (tCons (tVar 1) tNil)) (tCons (tLst tNil) tNil))) (tSeq (tWhile (tTest (tOp (rNeP K) (tVar 2) (tLst tNil))) (tSeq (tAsg (tCall (sp__law_draw K a) [] E0 (tCons (tVar 0) (tCons (tCB (rLenX K) (tCons (tVar 2) tNil)) tNil))) (gName 4)) (tSeq (tDrop (tBM K "list" rAppend (tVar 3) (tCons (tOp (rIxX K) (tVar 2) (tVar 4)) tNil))) (tAsg (tOp (rAddX K) (tSl (rSlX K) (tVar 2) tNoPart (tPart (tVar 4))) (tSl (rSlX K) (tVar 2) (tPart (tOp (rAddX K) (tVar 4) (tC (.int 1)))) tNoPart)) (gName 2))))) (tRet (tVar 3))))
def C_law_mixed : Ct := fun ds P => ∃ x l, ds = [.st, x] ∧ isSeq x = some l ∧ l.length ≤ 300 ∧ (∀ y ∈ l, y.plain = true) ∧ P = fun d => ∃ l', d = .lst l' ∧ l'.Perm l
abbrev sp__law_mixed (K : PySem.W.Frag) (a : Ad) : Sp := spF K 300 C_law_mixed
theorem bd__law_mixed (T : Tc K a) : ∀ {vs H Q E}, sp__law_mixed K a vs H Q E → t__law_mixed K a { nx := fun _ H' => Q .non H', rt := Q } (L2.start N__law_mixed vs) H := body_F fun ds P m c => by
  obtain ⟨x, l, rfl, hx, hl, hp, rfl⟩ := c
  show DS K _ [.val .st, .val x, .no, .no, .no] (m + 300) _
  unfold t__law_mixed
  refine s_seq (s_par (n1 := 0) (n2 := 0) (ew_cb ok_list (f_var rfl).r (seq_list hx)).f.v (ew_lst a_nil).v fun s1 s2 ⟨d1, e1, p1⟩ ⟨d2, e2, p2⟩ => ?_)
  subst e1; subst e2; subst p1; subst p2
  refine s_seq (s_while (fun μ Γ m' => ∃ left found s4, Γ = [.val .st, .val x, .val (.lst left), .ow (.lst found), s4] ∧ (found ++ left).Perm l ∧ μ = left.length ∧ m + left.length ≤ m') ⟨l.length, l, [], .no, rfl, List.Perm.refl _, rfl, by omega⟩ ?_)
  rintro μ Γ' m' ⟨left, found, s4, rfl, hperm, rfl, hm⟩
  have hlen : found.length + left.length ≤ 300 := by rw [← List.length_append, hperm.length_eq]; exact hl
  have hpl : ∀ y ∈ left, y.plain = true := fun y hy => hp y (hperm.mem_iff.mp (List.mem_append_right _ hy))
  refine ⟨m', (· = !left.isEmpty), 0, Nat.le_refl _, e_test (e_op ok_ne (f_var rfl).r (ew_lst a_nil).f.r (by rw [eqF_nil hpl]; rfl)), fun h => ?_, fun h => ?_⟩
  · have hne : left ≠ [] := by intro e; rw [e] at h; cases h
    have hpos := List.length_pos_iff.mpr hne
    refine s_less (m' := m + (left.length - 1) + 1) (by omega) (s_seq (s_set (n := 1) (e_call (n := 1) (P := fun d => ∃ i : Nat, i < left.length ∧ d = .int i) (ea_cons (f_var rfl) (ea_cons (e_cb ok_len (f_var rfl).r rfl) a_nil)) ⟨left.length, rfl, hpos, by omega, rfl⟩) fun d ⟨i, hi, e⟩ => ?_))
    subst e
    have hget := List.getElem?_eq_getElem hi
    refine s_seq (es_app rfl (by omega) (e_op ok_ix (f_var rfl).r (f_var rfl).r (ix_lst hget)) ?_)
    have e2 : (((i + 1 : Nat)) : Int) = (i : Int) + 1 := by omega
    refine es_set (d := .lst (left.take i ++ left.drop (i + 1))) (ew_op ok_addL ((ew_sl (f_var rfl).r o_none (eo_some (f_var (d := .int (i : Nat)) rfl))).cast (by rw [cut_to])).f.r ((ew_sl (f_var rfl).r (eo_some (e_op ok_add (f_var (d := .int (i : Nat)) rfl).r c_int.r rfl)) o_none).cast (by rw [← e2, cut_from (by omega)])).f.r ?_).f ⟨left.length - 1, by omega, left.take i ++ left.drop (i + 1), found ++ [left[i]], _, rfl, ?_, ?_, ?_⟩
    · show (if (left.take i).length + (left.drop (i + 1)).length ≤ sizeLine then some (D.lst (left.take i ++ left.drop (i + 1))) else none) = _
      rw [if_pos (by rw [sizeLine_eq, List.length_take, List.length_drop]; omega)]
    · refine List.Perm.trans ?_ hperm
      rw [List.append_assoc]
      refine List.Perm.append_left _ ?_
      conv => rhs; rw [split_at hget]
      exact (List.perm_middle (a := left[i]) (l₁ := left.take i) (l₂ := left.drop (i + 1))).symm
    · rw [List.length_append, List.length_take, List.length_drop]; omega
    · rw [List.length_append, List.length_take, List.length_drop]; omega
  · have hnil : left = [] := by cases left with
      | nil => rfl
      | cons _ _ => cases h
    subst hnil
    rw [List.append_nil] at hperm
    exact s_retO rfl ⟨by omega, found, rfl, hperm⟩
/-! ### _law_hop -/
def N__law_hop : List Str := ["state", "later", "every", "way"]
def t__law_hop [Wld] (K : PySem.W.Frag) (a : Ad) : TS := (tSeq (tAsg (tCall (sp__law_draw K a) [] E0 (tCons (tVar 0) (tCons (tC (.int 9)) tNil))) (gName 3)) (tSeq (tIfS (tTest (tOp (rEqP K) (tVar 3) (tC (.int 0)))) (tRet (tC .non)) tNext) (tRet (tCall (sp__law_pick K a) [] E0 (tCons (tVar 0) (tCons (tIf (tTest (tOp (rEqP K) (tVar 3) (tC (.int 1)))) (tVar 2) (tVar 1)) tNil))))))
def C_law_hop : Ct := fun ds P => ∃ x y l r, ds = [.st, x, y] ∧ isSeq x = some l ∧ isSeq y = some r ∧ l ≠ [] ∧ r ≠ [] ∧ l.length < 1000 ∧ r.length < 1000 ∧ P = fun d => d = .non ∨ d ∈ l ∨ d ∈ r
abbrev sp__law_hop (K : PySem.W.Frag) (a : Ad) : Sp := spF K 2 C_law_hop
theorem bd__law_hop (T : Tc K a) : ∀ {vs H Q E}, sp__law_hop K a vs H Q E → t__law_hop K a { nx := fun _ H' => Q .non H', rt := Q } (L2.start N__law_hop vs) H := body_F fun ds P m c => by
  obtain ⟨x, y, l, r, rfl, hx, hy, hl, hr, ll, lr, rfl⟩ := c
  show DS K _ [.val .st, .val x, .val y, .no] (m + 1 + 1) _
  unfold t__law_hop
  refine s_seq (s_set (n := 1) (e_call (n := 1) (P := fun d => ∃ i : Nat, i < 9 ∧ d = .int i) (ea_cons (f_var rfl) (ea_cons c_int a_nil)) ⟨9, rfl, by omega, by omega, rfl⟩) fun d ⟨i, hi, e⟩ => ?_)
  subst e
  refine s_seq (es_if (b := decide ((i : Int) = 0)) (e_test (e_op ok_eq (f_var rfl).r c_int.r (by rw [eqF_int]; rfl))) (fun _ => es_ret c_non ⟨by omega, .inl rfl⟩) fun _ => s_next ?_)
  have hsel : DF K (tIf (tTest (tOp (rEqP K) (tVar 3) (tC (.int 1)))) (tVar 2) (tVar 1)) [.val .st, .val x, .val y, .val (.int (i : Nat))] 0 (· = if decide ((i : Int) = 1) = true then y else x) := e_if (e_test (e_op ok_eq (f_var rfl).r c_int.r (by rw [eqF_int]; rfl))) (fun _ => f_var rfl) fun _ => f_var rfl
  by_cases h1 : (i : Int) = 1
  · rw [decide_eq_true h1, if_pos rfl] at hsel
    exact s_ret (n := 1) (e_call (n := 1) (ea_cons (f_var rfl) (ea_cons hsel a_nil)) ⟨y, r, rfl, seq_elems hy, hr, by omega, rfl⟩) fun d hd => ⟨Nat.le_refl _, .inr (.inr hd)⟩
  · rw [decide_eq_false h1, if_neg Bool.false_ne_true] at hsel
    exact s_ret (n := 1) (e_call (n := 1) (ea_cons (f_var rfl) (ea_cons hsel a_nil)) ⟨x, l, rfl, seq_elems hx, hl, by omega, rfl⟩) fun d hd => ⟨Nat.le_refl _, .inr (.inl hd)⟩
/-! ### _law_flow -/
/-- hops drawn: the nodes in some order -/
structure HopsOk (ns es ord : List Str) (f : Str → Option Str) : Prop where
  perm : ord.Perm ns
  ok : ∀ s ∈ ns, isHop ns es (hopD (f s)) = true
theorem hop_of {ns es : List Str} {d : D} (h : d = .non ∨ d ∈ (ns ++ es).map D.str) : ∃ o : Option Str, d = hopD o ∧ isHop ns es (hopD o) = true := by
  rcases h with h | h
  · exact ⟨none, h, rfl⟩
  · obtain ⟨s, hs, rfl⟩ := List.mem_map.mp h
    refine ⟨some s, rfl, ?_⟩
    show (decide (s ∈ ns) || decide (s ∈ es)) = true
    rcases List.mem_append.mp hs with q | q
    · rw [decide_eq_true q]; rfl
    · rw [decide_eq_true q, Bool.or_true]
/-- a dict of hops grows -/
theorem hops_put {ord : List Str} {i : Nat} {s : Str} {f : Str → Option Str} {o : Option Str} (nd : ord.Nodup) (h : ord[i]? = some s) :
    putD (hopsK (ord.take i) f) (.inr s) (hopD o) = hopsK (ord.take (i + 1)) (fun q => if q = s then o else f q) := by
  have hn : s ∉ ord.take i := fun hm => by
    obtain ⟨j, hj, ej⟩ := List.getElem_of_mem hm
    have hj' : j < i := by rw [List.length_take] at hj; omega
    have e1 : ord[j]? = some s := by rw [← ej, List.getElem_take]; exact List.getElem?_eq_getElem _
    have := nd_ix nd e1 h
    omega
  unfold hopsK
  rw [putD_new, take_succ h, List.map_append]
  · congr 1
    · refine List.map_congr_left fun q hq => ?_
      show ((Sum.inr q : Key), hopD (f q)) = ((Sum.inr q : Key), hopD (if q = s then o else f q))
      rw [if_neg fun e => hn (by rw [← e]; exact hq)]
    · show [((Sum.inr s : Key), hopD o)] = [((Sum.inr s : Key), hopD (if s = s then o else f s))]
      rw [if_pos rfl]
  · rw [List.map_map]
    intro hm
    obtain ⟨q, hq, e⟩ := List.mem_map.mp hm
    cases e; exact hn hq
def N__law_flow : List Str := ["state", "nodes", "exits", "first", "second", "old", "new", "at", "node", "hop"]
def t__law_flow [Wld] (K : PySem.W.Frag) (a : Ad) : TS := (tSeq (tPar 3 4 (tCons (tCall (sp__law_mixed K a) [] E0 (tCons (tVar 0) (tCons (tVar 1) tNil))) (tCons (tCall (sp__law_mixed K a) [] E0 (tCons (tVar 0) (tCons (tVar 1) tNil))) tNil))) (tSeq (tPar 5 6 (tCons tDNewK (tCons tDNewK tNil))) (tSeq (tFor (iEnumS K (tCons (tVar 3) tNil)) (gTup K 2 (gCons (gName 7) (gCons (gName 8) gNil))) (sDPut (tVar 5) (tVar 8) (tCall (sp__law_hop K a) [] E0 (tCons (tVar 0) (tCons (tOp (rAddX K) (tOp (rMulX) (tSl (rSlX K) (tVar 3) (tPart (tOp (rAddX K) (tVar 7) (tC (.int 1)))) tNoPart) (tC (.int 3))) (tVar 2)) (tCons (tOp (rAddX K) (tVar 1) (tVar 2)) tNil)))))) (tSeq (tFor (iEnumS K (tCons (tVar 4) tNil)) (gTup K 2 (gCons (gName 7) (gCons (gName 8) gNil))) (tSeq (tAsg (tCall (sp__law_hop K a) [] E0 (tCons (tVar 0) (tCons (tOp (rAddX K) (tOp (rMulX) (tSl (rSlX K) (tVar 4) (tPart (tOp (rAddX K) (tVar 7) (tC (.int 1)))) tNoPart) (tC (.int 3))) (tVar 2)) (tCons (tOp (rAddX K) (tVar 1) (tVar 2)) tNil)))) (gName 9)) (sDPut (tVar 6) (tVar 8) (tIf (tTest (tOp (rGtX) (tCall (sp__law_draw K a) [] E0 (tCons (tVar 0) (tCons (tC (.int 4)) tNil))) (tC (.int 0)))) (tVar 9) (tOp (rIxX K) (tVar 5) (tVar 8)))))) (tRet (tTup (tCons (tVar 5) (tCons (tVar 6) tNil))))))))
def C_law_flow : Ct := fun ds P => ∃ ns es, ds = [.st, strsL ns, strsL es] ∧ NetOk ns es ∧ P = fun d => ∃ o1 o2 f g, d = .tup [.dK (hopsK o1 f), .dK (hopsK o2 g)] ∧ HopsOk ns es o1 f ∧ HopsOk ns es o2 g
abbrev sp__law_flow (K : PySem.W.Frag) (a : Ad) : Sp := spF K 660 C_law_flow
theorem perm_strs {l : List D} {ns : List Str} (h : l.Perm (ns.map .str)) : ∃ o : List Str, l = o.map .str ∧ o.Perm ns := by
  refine ⟨l.filterMap strO, ?_, ?_⟩
  · have : ∀ y ∈ l, ∃ s, y = D.str s := fun y hy => by
      obtain ⟨s, _, e⟩ := List.mem_map.mp (h.mem_iff.mp hy); exact ⟨s, e.symm⟩
    clear h
    induction l with
    | nil => rfl
    | cons x l ih =>
      obtain ⟨s, rfl⟩ := this x (List.mem_cons_self ..)
      have := ih fun y hy => this y (List.mem_cons_of_mem _ hy)
      show D.str s :: l = D.str s :: (l.filterMap strO).map .str
      rw [← this]
  · have := h.filterMap strO
    rw [strO_map] at this
    exact this
theorem bd__law_flow (T : Tc K a) : ∀ {vs H Q E}, sp__law_flow K a vs H Q E → t__law_flow K a { nx := fun _ H' => Q .non H', rt := Q } (L2.start N__law_flow vs) H := body_F fun ds P m c => by
  obtain ⟨ns, es, rfl, ok, rfl⟩ := c
  show DS K _ [.val .st, .val (strsL ns), .val (strsL es), .no, .no, .no, .no, .no, .no, .no] (m + 60 + 300 + 300) _
  unfold t__law_flow
  have hn8 := ok.n8
  have hmix : ∀ {Γ : Gm}, Γ[0]? = some (.val .st) → Γ[1]? = some (.val (strsL ns)) → DF K (tCall (sp__law_mixed K a) [] E0 (tCons (tVar 0) (tCons (tVar 1) tNil))) Γ 300 (fun d => ∃ o : List Str, d = strsL o ∧ o.Perm ns) := fun h0 h1 =>
    (e_call (n := 300) (ea_cons (f_var h0) (ea_cons (f_var h1) a_nil)) ⟨strsL ns, ns.map .str, rfl, rfl, by rw [List.length_map]; omega, fun y hy => by obtain ⟨s, _, rfl⟩ := List.mem_map.mp hy; rfl, rfl⟩).imp fun d ⟨l, e, p⟩ => by
      obtain ⟨o, rfl, q⟩ := perm_strs p
      exact ⟨o, e, q⟩
  refine s_seq (s_par (n1 := 300) (n2 := 300) (hmix rfl rfl).v (hmix rfl rfl).v fun s1 s2 ⟨d1, e1, o1, p1, q1⟩ ⟨d2, e2, o2, p2, q2⟩ => ?_)
  subst e1; subst e2; subst p1; subst p2
  refine s_seq (s_par (n1 := 0) (n2 := 0) w_new.v w_new.v fun s1 s2 ⟨d1, e1, p1⟩ ⟨d2, e2, p2⟩ => ?_)
  subst e1; subst e2; subst p1; subst p2
  have nd0 : ns.Nodup := (List.nodup_append.mp ok.nd).1
  have nd1 : o1.Nodup := q1.nodup_iff.mpr nd0
  have nd2 : o2.Nodup := q2.nodup_iff.mpr nd0
  have l1 := q1.length_eq
  have l2 := q2.length_eq
  have he3 := ok.e3
  have he1 := ok.e1
  -- one hop
  have hhop : ∀ {Γ : Gm} {v : Nat} {o : List Str} {i : Nat}, Γ[0]? = some (.val .st) → Γ[1]? = some (.val (strsL ns)) → Γ[2]? = some (.val (strsL es)) → Γ[v]? = some (.val (strsL o)) → Γ[7]? = some (.val (.int (i : Nat))) → o.Perm ns → i < o.length →
      DF K (tCall (sp__law_hop K a) [] E0 (tCons (tVar 0) (tCons (tOp (rAddX K) (tOp (rMulX) (tSl (rSlX K) (tVar v) (tPart (tOp (rAddX K) (tVar 7) (tC (.int 1)))) tNoPart) (tC (.int 3))) (tVar 2)) (tCons (tOp (rAddX K) (tVar 1) (tVar 2)) tNil)))) Γ 2 (fun d => ∃ h : Option Str, d = hopD h ∧ isHop ns es (hopD h) = true) := fun {Γ v o i} h0 h1 h2 hv h7 hp hi => by
    have hol := hp.length_eq
    have e2 : (((i + 1 : Nat)) : Int) = (i : Int) + 1 := by omega
    have hsl : DF K (tSl (rSlX K) (tVar v) (tPart (tOp (rAddX K) (tVar 7) (tC (.int 1)))) tNoPart) Γ 0 (· = .lst ((o.map D.str).drop (i + 1))) := ((ew_sl (xs := o.map .str) (f_var hv).r (eo_some (e_op ok_add (f_var h7).r c_int.r rfl)) o_none).cast (by rw [← e2, cut_from (by rw [List.length_map]; omega)])).f
    have hdl : ((o.map D.str).drop (i + 1)).length ≤ 8 := by rw [List.length_drop, List.length_map]; omega
    have hmul : mulF (.lst ((o.map D.str).drop (i + 1))) (.int 3) = some (.lst (List.replicate 3 ((o.map D.str).drop (i + 1))).flatten) := by
      show (if (0 : Int) ≤ 3 ∧ (3 : Int) < 1000000 ∧ ((o.map D.str).drop (i + 1)).length * (3 : Int).toNat ≤ sizeLine then _ else none) = _
      rw [if_pos ⟨by omega, by omega, by rw [sizeLine_eq]; show _ * 3 ≤ _; omega⟩]; rfl
    have hfl : (List.replicate 3 ((o.map D.str).drop (i + 1))).flatten.length ≤ 24 := by
      rw [List.length_flatten, List.map_replicate]
      show ((o.map D.str).drop (i + 1)).length + (((o.map D.str).drop (i + 1)).length + (((o.map D.str).drop (i + 1)).length + 0)) ≤ 24
      omega
    have hlat : DF K (tOp (rAddX K) (tOp (rMulX) (tSl (rSlX K) (tVar v) (tPart (tOp (rAddX K) (tVar 7) (tC (.int 1)))) tNoPart) (tC (.int 3))) (tVar 2)) Γ 0 (· = .lst ((List.replicate 3 ((o.map D.str).drop (i + 1))).flatten ++ es.map .str)) := e_op ok_add (e_op ok_mul hsl.r c_int.r hmul).r (f_var h2).r (by
      show (if (List.replicate 3 ((o.map D.str).drop (i + 1))).flatten.length + (es.map D.str).length ≤ sizeLine then _ else none) = _
      rw [if_pos (by rw [List.length_map, sizeLine_eq]; omega)])
    have hev : DF K (tOp (rAddX K) (tVar 1) (tVar 2)) Γ 0 (· = .lst (ns.map .str ++ es.map .str)) := e_op ok_add (f_var h1).r (f_var h2).r (by
      show (if (ns.map D.str).length + (es.map D.str).length ≤ sizeLine then _ else none) = _
      rw [if_pos (by rw [List.length_map, List.length_map, sizeLine_eq]; omega)])
    refine (e_call (n := 2) (ea_cons (f_var h0) (ea_cons hlat (ea_cons hev a_nil))) ⟨_, _, _, _, rfl, rfl, rfl, ?_, ?_, ?_, ?_, rfl⟩).imp fun d hd => hop_of ?_
    · rcases hd with hd | hd | hd
      · exact .inl hd
      · right
        rw [List.map_append]
        rcases List.mem_append.mp hd with hd | hd
        · obtain ⟨z, hz, hdz⟩ := List.mem_flatten.mp hd
          rw [(List.mem_replicate.mp hz).2] at hdz
          have := List.mem_of_mem_drop hdz
          obtain ⟨s, hs, rfl⟩ := List.mem_map.mp this
          exact List.mem_append_left _ (List.mem_map.mpr ⟨s, hp.mem_iff.mp hs, rfl⟩)
        · exact List.mem_append_right _ hd
      · right; rw [List.map_append]; exact hd
    · intro e
      have e3 := congrArg List.length e
      rw [List.length_append, List.length_map] at e3
      have : ([] : List D).length = 0 := rfl
      omega
    · intro e
      have e3 := congrArg List.length e
      rw [List.length_append, List.length_map, List.length_map] at e3
      have : ([] : List D).length = 0 := rfl
      omega
    · rw [List.length_append, List.length_map]; omega
    · rw [List.length_append, List.length_map, List.length_map]; omega
  refine s_seq (s_for (n := 0) (PL := (· = enumD (o1.map .str))) (fun ds i Γ m' => m + 40 + 2 * (o1.length - i) ≤ m' ∧ ∃ f s7 s8, Γ = [.val .st, .val (strsL ns), .val (strsL es), .val (strsL o1), .val (strsL o2), .ow (.dK (hopsK (o1.take i) f)), .ow (.dK []), s7, s8, .no] ∧ ∀ s ∈ o1.take i, isHop ns es (hopD (f s)) = true) (i_enum (f_var rfl) rfl) (fun ds e => ⟨by omega, fun _ => none, .no, .no, rfl, fun s h => by simp at h⟩) ?_ ?_)
  · rintro ds i d Γ' m' e hd ⟨hm, f, s7, s8, rfl, hf⟩
    subst e
    obtain ⟨z, hz, rfl⟩ := enum_at hd
    rw [List.getElem?_map] at hz
    cases q : o1[i]? with
    | none => rw [q] at hz; cases hz
    | some nd =>
      rw [q] at hz; cases hz
      have hil := (List.getElem?_eq_some_iff.mp q).1
      refine ⟨_, _, g_tup (gs_cons g_name (gs_cons g_name gs_nil)), s_less (m' := m + 40 + 2 * (o1.length - (i + 1)) + 2 + 0) (by omega) (s_put (n1 := 2) (n2 := 0) rfl ?_ (hhop rfl rfl rfl rfl rfl q1 hil) (f_var (d := .str nd) rfl) fun x y ⟨h, e, hh⟩ e2 => ⟨.inr nd, by rw [e2]; rfl, Nat.le_refl _, fun r => if r = nd then h else f r, .val (.int (i : Nat)), .val (.str nd), ?_, ?_⟩)⟩
      · unfold hopsK; rw [List.length_map, List.length_take]; omega
      · subst e
        show [_, _, _, _, _, Sl.ow (.dK (putD (hopsK (o1.take i) f) (.inr nd) (hopD h))), _, _, _, _] = _
        rw [hops_put nd1 q]
      · intro s hs
        rw [take_succ q] at hs
        show isHop ns es (hopD (if s = nd then h else f s)) = true
        by_cases e : s = nd
        · rw [if_pos e]; exact hh
        · rw [if_neg e]
          rcases List.mem_append.mp hs with hs | hs
          · exact hf s hs
          · exact absurd (List.mem_singleton.mp hs) e
  · rintro ds Γ' m' e ⟨hm, f, s7, s8, rfl, hf⟩
    subst e
    rw [enumD_len, List.length_map, List.take_length] at hf ⊢
    have hfn : ∀ s ∈ ns, isHop ns es (hopD (f s)) = true := fun s hs => hf s (q1.mem_iff.mpr hs)
    refine s_seq (s_for (n := 0) (PL := (· = enumD (o2.map .str))) (fun ds i Γ m' => m + 3 * (o2.length - i) ≤ m' ∧ ∃ g s7 s8 s9, Γ = [.val .st, .val (strsL ns), .val (strsL es), .val (strsL o1), .val (strsL o2), .ow (.dK (hopsK o1 f)), .ow (.dK (hopsK (o2.take i) g)), s7, s8, s9] ∧ ∀ s ∈ o2.take i, isHop ns es (hopD (g s)) = true) (i_enum (f_var rfl) rfl) (fun ds e => ⟨by omega, fun _ => none, s7, s8, .no, rfl, fun s h => by simp at h⟩) ?_ ?_)
    · rintro ds i d Γ' m' e hd ⟨hm, g, s7, s8, s9, rfl, hg⟩
      subst e
      obtain ⟨z, hz, rfl⟩ := enum_at hd
      rw [List.getElem?_map] at hz
      cases q : o2[i]? with
      | none => rw [q] at hz; cases hz
      | some nd =>
        rw [q] at hz; cases hz
        have hil := (List.getElem?_eq_some_iff.mp q).1
        have hnd : nd ∈ ns := q2.mem_iff.mp (List.mem_of_getElem? q)
        refine ⟨_, _, g_tup (gs_cons g_name (gs_cons g_name gs_nil)), s_less (m' := m + 3 * (o2.length - (i + 1)) + 1 + 0 + 2) (by omega) (s_seq (s_set (n := 2) (hhop rfl rfl rfl rfl rfl q2 hil) fun d ⟨h, e, hh⟩ => ?_))⟩
        subst e
        refine s_put (n1 := 1) (n2 := 0) rfl ?_ (f_if (n1 := 1) (n2 := 0) (P := fun d => ∃ o : Option Str, d = hopD o ∧ isHop ns es (hopD o) = true) (Pb := fun _ => True) (t_test (P := fun d => ∃ b : Bool, d = .bl b) (f_op (n1 := 1) (n2 := 0) ok_gt (e_call (n := 1) (P := fun d => ∃ i : Nat, i < 4 ∧ d = .int i) (ea_cons (f_var rfl) (ea_cons c_int a_nil)) ⟨4, rfl, by omega, by omega, rfl⟩).r c_int.r fun x y ⟨z, _, e1⟩ e2 => ⟨.bl (decide ((0 : Int) < (z : Int))), by rw [e1, e2]; rfl, _, rfl⟩) fun d ⟨b, e⟩ => ⟨b, e, trivial⟩) (fun _ => (f_var rfl).imp fun d e => ⟨h, e, hh⟩) fun _ => (e_op ok_ix (r_var rfl) (f_var (d := .str nd) rfl).r (ix_dK (val_hops (q1.mem_iff.mpr hnd)))).imp fun d e => ⟨f nd, e, hfn nd hnd⟩) (f_var (d := .str nd) rfl) fun x y ⟨o, e, ho⟩ e2 => ⟨.inr nd, by rw [e2]; rfl, Nat.le_refl _, fun r => if r = nd then o else g r, .val (.int (i : Nat)), .val (.str nd), .val (hopD h), ?_, ?_⟩
        · unfold hopsK; rw [List.length_map, List.length_take]; omega
        · subst e
          show [_, _, _, _, _, _, Sl.ow (.dK (putD (hopsK (o2.take i) g) (.inr nd) (hopD o))), _, _, _] = _
          rw [hops_put nd2 q]
        · intro s hs
          rw [take_succ q] at hs
          show isHop ns es (hopD (if s = nd then o else g s)) = true
          by_cases e : s = nd
          · rw [if_pos e]; exact ho
          · rw [if_neg e]
            rcases List.mem_append.mp hs with hs | hs
            · exact hg s hs
            · exact absurd (List.mem_singleton.mp hs) e
    · rintro ds Γ' m' e ⟨hm, g, s7, s8, s9, rfl, hg⟩
      subst e
      rw [enumD_len, List.length_map, List.take_length] at hg ⊢
      refine s_freeze 5 rfl (s_freeze 6 rfl (es_ret (e_tup (ea_cons (f_var rfl) (ea_cons (f_var rfl) a_nil)) (by show 2 ≤ 1000; omega)) ⟨by omega, o1, o2, f, g, rfl, ⟨q1, hfn⟩, ⟨q2, fun s hs => hg s (q2.mem_iff.mpr hs)⟩⟩))
end
end DL
set_option Elab.async false
set_option linter.all false
set_option maxRecDepth 100000
set_option maxHeartbeats 2000000
/-! Kl: models drawn, updates made of them. -/
namespace DL
open PySem L2
/-- a model: an update, the orders in which the hops were drawn -/
structure Mo where
  u : Up
  p : Str → List Str
  q : Str → List Str
structure MoOk (mo : Mo) : Prop where
  net : NetOk mo.u.ns mo.u.es
  fl : FlOk mo.u.fl
  o : ∀ l ∈ mo.u.fl, HopsOk mo.u.ns mo.u.es (mo.p l) (mo.u.o l)
  n : ∀ l ∈ mo.u.fl, HopsOk mo.u.ns mo.u.es (mo.q l) (mo.u.n l)
def flowD (mo : Mo) (l : Str) : D := .tup [.dK (hopsK (mo.p l) (mo.u.o l)), .dK (hopsK (mo.q l) (mo.u.n l))]
def flK (mo : Mo) : List (Key × D) := mo.u.fl.map fun l => (.inr l, flowD mo l)
def moK (mo : Mo) : List (Key × D) := [(.inr "nodes", strsL mo.u.ns), (.inr "exits", strsL mo.u.es), (.inr "flows", .dK (flK mo))]
def moD (mo : Mo) : D := .dK (moK mo)
section
variable [Wld] {K : PySem.W.Frag} {a : Ad} {m n : Nat} {Γ : Gm} {te ta tb : TE} {t : TS} {tr : TA} {d x y : D} {E : XK} {R : Posts} {P : D → Prop}
theorem k_ne : ¬ (Sum.inr "nodes" : Key) = (Sum.inr "exits" : Key) := by decide +kernel
theorem k_nf : ¬ (Sum.inr "nodes" : Key) = (Sum.inr "flows" : Key) := by decide +kernel
theorem k_ef : ¬ (Sum.inr "exits" : Key) = (Sum.inr "flows" : Key) := by decide +kernel
theorem mo_nodes (mo : Mo) : ixF (moD mo) (.str "nodes") = some (strsL mo.u.ns) := by
  show valD (moK mo) (.inr "nodes") = _
  unfold moK; rw [valD_cons, if_pos rfl]
theorem mo_exits (mo : Mo) : ixF (moD mo) (.str "exits") = some (strsL mo.u.es) := by
  show valD (moK mo) (.inr "exits") = _
  unfold moK; rw [valD_cons, valD_cons]
  show (if (Sum.inr "nodes" : Key) = (Sum.inr "exits" : Key) then _ else _) = _
  rw [if_neg k_ne, if_pos rfl]
theorem mo_flows (mo : Mo) : ixF (moD mo) (.str "flows") = some (.dK (flK mo)) := by
  show valD (moK mo) (.inr "flows") = _
  unfold moK; rw [valD_cons, valD_cons, valD_cons]
  show (if (Sum.inr "nodes" : Key) = (Sum.inr "flows" : Key) then _ else (if (Sum.inr "exits" : Key) = (Sum.inr "flows" : Key) then _ else _)) = _
  rw [if_neg k_nf, if_neg k_ef, if_pos rfl]
theorem val_fl {mo : Mo} {l : Str} (h : l ∈ mo.u.fl) : valD (flK mo) (.inr l) = some (flowD mo l) :=
  valD_map (kf := fun s => .inr s) (fun y _ e => by cases e; rfl) h
theorem flK_keys (mo : Mo) : (flK mo).map (fun kv => kD kv.1) = mo.u.fl.map .str := by
  unfold flK; rw [List.map_map]; rfl
/-! ### _law_update -/
def N__law_update : List Str := ["model", "network", "flows", "lane", "old", "new"]
def t__law_update [Wld] (K : PySem.W.Frag) (a : Ad) : TS := (tSeq (tPar 1 2 (tCons (tMake a.Network (sp_Network___init__ K a) [] E0 (tCons (tOp (rIxX K) (tVar 0) (tC (.str "nodes"))) (tCons (tOp (rIxX K) (tVar 0) (tC (.str "exits"))) tNil))) (tCons tDNewK tNil))) (tSeq (tFor (iKeysL (tOp (rIxX K) (tVar 0) (tC (.str "flows")))) (gName 3) (tSeq (tAsg (tOp (rIxX K) (tOp (rIxX K) (tVar 0) (tC (.str "flows"))) (tVar 3)) (gTup K 2 (gCons (gName 4) (gCons (gName 5) gNil)))) (sDPut (tVar 2) (tVar 3) (tTup (tCons (tMake a.Table (sp_Table___init__ K a) [] E0 (tCons (tVar 1) (tCons (tVar 4) tNil))) (tCons (tMake a.Table (sp_Table___init__ K a) [] E0 (tCons (tVar 1) (tCons (tVar 5) tNil))) tNil)))))) (tRet (tMake a.Update (sp_Update___init__ K a) [] E0 (tCons (tVar 1) (tCons (tVar 2) tNil))))))
def C_law_update (a : Ad) : Ct := fun ds P => ∃ mo, ds = [moD mo] ∧ MoOk mo ∧ P = (· = updD a mo.u.sort)
abbrev sp__law_update (K : PySem.W.Frag) (a : Ad) : Sp := spF K 0 (C_law_update a)
def flowsTo (a : Ad) (u : Up) (l : List Str) : List (Key × D) := l.map fun l => (.inr l, pairD a u l)
theorem f_table (T : Tc K a) {ns es ord : List Str} {f : Str → Option Str} (ok : NetOk ns es) (ho : HopsOk ns es ord f) (h1 : DF K ta Γ 0 (· = netD a ns es)) (h2 : DF K tb Γ 0 (· = .dK (hopsK ord f))) : DF K (tMake a.Table (sp_Table___init__ K a) [] E0 (tCons ta (tCons tb tNil))) Γ 0 (· = tabD a ns es f) :=
  (ew_make (n := 0) (ea_cons h1 (ea_cons h2 a_nil)) ⟨ns, es, hopsK ord f, f, rfl, (List.nodup_append.mp ok.nd).1, ok.n8, fun s hs => ⟨val_hops (ho.perm.mem_iff.mpr hs), ho.ok s hs⟩, fun kv hkv => by
    obtain ⟨s, hs, rfl⟩ := List.mem_map.mp hkv
    exact ⟨s, ho.perm.mem_iff.mp hs, rfl⟩, rfl⟩).f
theorem bd__law_update (T : Tc K a) : ∀ {vs H Q E}, sp__law_update K a vs H Q E → t__law_update K a { nx := fun _ H' => Q .non H', rt := Q } (L2.start N__law_update vs) H := body_F fun ds P m c => by
  obtain ⟨mo, rfl, ok, rfl⟩ := c
  show DS K _ [.val (moD mo), .no, .no, .no, .no, .no] m _
  unfold t__law_update
  have hnet : DW K (tMake a.Network (sp_Network___init__ K a) [] E0 (tCons (tOp (rIxX K) (tVar 0) (tC (.str "nodes"))) (tCons (tOp (rIxX K) (tVar 0) (tC (.str "exits"))) tNil))) [.val (moD mo), .no, .no, .no, .no, .no] 0 (· = netD a mo.u.ns mo.u.es) :=
    ew_make (n := 0) (ea_cons (e_op ok_ix (f_var rfl).r c_str.r (mo_nodes mo)) (ea_cons (e_op ok_ix (f_var rfl).r c_str.r (mo_exits mo)) a_nil)) ⟨mo.u.ns, mo.u.es, rfl, ok.net, rfl⟩
  refine s_seq (s_par (n1 := 0) (n2 := 0) hnet.f.v w_new.v fun s1 s2 ⟨d1, e1, p1⟩ ⟨d2, e2, p2⟩ => ?_)
  subst e1; subst e2; subst p1; subst p2
  refine s_seq (s_for (n := 0) (PL := (· = mo.u.fl.map .str)) (fun ds i Γ m' => m' = m ∧ ∃ s3 s4 s5, Γ = [.val (moD mo), .val (netD a mo.u.ns mo.u.es), .ow (.dK (flowsTo a mo.u (mo.u.fl.take i))), s3, s4, s5]) (DI.castL (i_keys (e_op ok_ix (f_var rfl).r c_str.r (mo_flows mo))) (flK_keys mo)) (fun ds e => ⟨rfl, .no, .no, .no, rfl⟩) ?_ ?_)
  · rintro ds i d Γ' m' e hd ⟨rfl, s3, s4, s5, rfl⟩
    subst e
    rw [List.getElem?_map] at hd
    cases q : mo.u.fl[i]? with
    | none => rw [q] at hd; cases hd
    | some l =>
      rw [q] at hd; cases hd
      have hl := List.mem_of_getElem? q
      have hil := (List.getElem?_eq_some_iff.mp q).1
      have h3 := ok.fl.f3
      refine ⟨_, _, g_name, s_seq (es_tgt (d := flowD mo l) (e_op ok_ix (e_op ok_ix (f_var rfl).r c_str.r (mo_flows mo)).r (f_var (d := .str l) rfl).r (ix_dK (val_fl hl))) (g_tup (gs_cons g_name (gs_cons g_name gs_nil))) ?_)⟩
      refine s_put (n1 := 0) (n2 := 0) (P1 := (· = pairD a mo.u l)) (P2 := (· = .str l)) rfl ?_ (e_tup (ea_cons (f_table T ok.net (ok.o l hl) (f_var rfl) (f_var rfl)) (ea_cons (f_table T ok.net (ok.n l hl) (f_var rfl) (f_var rfl)) a_nil)) (by show 2 ≤ 1000; omega)) (f_var rfl) fun x y e1 e2 => ⟨.inr l, by rw [e2]; rfl, rfl, .val (.str l), .val (.dK (hopsK (mo.p l) (mo.u.o l))), .val (.dK (hopsK (mo.q l) (mo.u.n l))), ?_⟩
      · unfold flowsTo; rw [List.length_map, List.length_take]; omega
      · subst e1
        show [_, _, Sl.ow (.dK (putD (flowsTo a mo.u (mo.u.fl.take i)) (.inr l) (pairD a mo.u l))), _, _, _] = _
        unfold flowsTo
        rw [putD_new, take_succ q, List.map_append]
        · rfl
        · rw [List.map_map]
          intro hm
          obtain ⟨z, hz, e⟩ := List.mem_map.mp hm
          cases e
          obtain ⟨j, hj, ej⟩ := List.getElem_of_mem hz
          have hj' : j < i := by rw [List.length_take] at hj; omega
          have e1 : mo.u.fl[j]? = some l := by rw [← ej, List.getElem_take]; exact List.getElem?_eq_getElem _
          have := nd_ix ok.fl.nd e1 q
          omega
  · rintro ds Γ' m' e ⟨rfl, s3, s4, s5, rfl⟩
    subst e
    refine s_freeze 2 rfl (es_ret (ew_make (n := 0) (ea_cons (f_var rfl) (ea_cons (f_var rfl) a_nil)) ⟨mo.u, ?_, ok.fl, rfl⟩).f ⟨Nat.le_refl _, rfl⟩)
    rw [List.length_map, List.take_length]; rfl
/-! ### _law_model -/
def N__law_model : List Str := ["state", "most", "flows", "many", "ways", "lots", "names", "nodes", "exits", "found", "lane"]
def t__law_model [Wld] (K : PySem.W.Frag) (a : Ad) : TS := (tSeq (tPar3 3 4 5 (tCons (tOp (rAddX K) (tC (.int 1)) (tCall (sp__law_draw K a) [] E0 (tCons (tVar 0) (tCons (tVar 1) tNil)))) (tCons (tOp (rAddX K) (tC (.int 1)) (tCall (sp__law_draw K a) [] E0 (tCons (tVar 0) (tCons (tC (.int 3)) tNil)))) (tCons (tOp (rAddX K) (tC (.int 1)) (tCall (sp__law_draw K a) [] E0 (tCons (tVar 0) (tCons (tVar 2) tNil)))) tNil)))) (tSeq (tAsg (tCall (sp__law_names K a) [] E0 (tCons (tVar 0) (tCons (tOp (rAddX K) (tOp (rAddX K) (tVar 3) (tVar 4)) (tVar 5)) tNil))) (gName 6)) (tSeq (tPar 7 8 (tCons (tSl (rSlX K) (tVar 6) tNoPart (tPart (tVar 3))) (tCons (tSl (rSlX K) (tVar 6) (tPart (tVar 3)) (tPart (tOp (rAddX K) (tVar 3) (tVar 4)))) tNil))) (tSeq (tAsg tDNewK (gName 9)) (tSeq (tFor (iSeq K (tSl (rSlX K) (tVar 6) (tPart (tOp (rAddX K) (tVar 3) (tVar 4))) tNoPart)) (gName 10) (sDPut (tVar 9) (tVar 10) (tCall (sp__law_flow K a) [] E0 (tCons (tVar 0) (tCons (tVar 7) (tCons (tVar 8) tNil)))))) (tRet (tDisp [((tC (.str "nodes")), (tVar 7)), ((tC (.str "exits")), (tVar 8)), ((tC (.str "flows")), (tVar 9))])))))))
def C_law_model : Ct := fun ds P => ∃ k f : Nat, ds = [.st, .int k, .int f] ∧ 1 ≤ k ∧ k ≤ 8 ∧ 1 ≤ f ∧ f ≤ 3 ∧ P = fun d => ∃ mo, d = moD mo ∧ MoOk mo ∧ mo.u.ns.length ≤ k ∧ mo.u.fl.length ≤ f
abbrev sp__law_model (K : PySem.W.Frag) (a : Ad) : Sp := spF K 2500 C_law_model
theorem f_draw1 {i j : Nat} {k : Nat} (h0 : Γ[i]? = some (.val .st)) (h1 : DF K ta Γ 0 (· = .int k)) (k0 : 0 < k) (k1 : k < 1000) : DF K (tOp (rAddX K) (tC (.int 1)) (tCall (sp__law_draw K a) [] E0 (tCons (tVar i) (tCons ta tNil)))) Γ 1 (fun d => ∃ z : Nat, 1 ≤ z ∧ z ≤ k ∧ d = .int z) :=
  f_op (n1 := 0) (n2 := 1) ok_add c_int.r (e_call (n := 1) (P := fun d => ∃ i : Nat, i < k ∧ d = .int i) (ea_cons (f_var h0) (ea_cons h1 a_nil)) ⟨k, rfl, k0, by omega, rfl⟩).r fun x y e1 ⟨z, hz, e2⟩ => ⟨.int ((1 + z : Nat) : Int), by rw [e1, e2]; show some (D.int (1 + (z : Int))) = _; rw [Int.natCast_add]; rfl, 1 + z, by omega, by omega, rfl⟩
theorem bd__law_model (T : Tc K a) : ∀ {vs H Q E}, sp__law_model K a vs H Q E → t__law_model K a { nx := fun _ H' => Q .non H', rt := Q } (L2.start N__law_model vs) H := body_F fun ds P m c => by
  obtain ⟨k, f, rfl, k1, k8, f1, f3, rfl⟩ := c
  show DS K _ [.val .st, .val (.int k), .val (.int f), .no, .no, .no, .no, .no, .no, .no, .no] (m + 2367 + 130 + 1 + 1 + 1) _
  unfold t__law_model
  refine s_seq (s_par3 (n1 := 1) (n2 := 1) (n3 := 1) (f_draw1 (j := 0) rfl (f_var (d := .int k) rfl) (by omega) (by omega)).v (f_draw1 (j := 0) (k := 3) rfl c_int (by omega) (by omega)).v (f_draw1 (j := 0) rfl (f_var (d := .int f) rfl) (by omega) (by omega)).v fun s1 s2 s3 ⟨d1, e1, z1, a1, b1, p1⟩ ⟨d2, e2, z2, a2, b2, p2⟩ ⟨d3, e3, z3, a3, b3, p3⟩ => ?_)
  subst e1; subst e2; subst e3; subst p1; subst p2; subst p3
  refine s_seq (s_set (n := 130) (e_call (n := 130) (P := fun d => ∃ l, d = strsL l ∧ NamesOk (z1 + z2 + z3) l) (ea_cons (f_var rfl) (ea_cons (e_op ok_add (e_op ok_add (f_var rfl).r (f_var rfl).r rfl).r (f_var rfl).r rfl) a_nil)) ⟨z1 + z2 + z3, by rw [Int.natCast_add, Int.natCast_add], by omega, rfl⟩) fun d ⟨l, e, ok⟩ => ?_)
  subst e
  have hl := ok.len
  have hsum : ((z1 + z2 : Nat) : Int) = (z1 : Int) + (z2 : Int) := Int.natCast_add ..
  refine s_seq (s_par (n1 := 0) (n2 := 0) (((ew_sl (xs := l.map .str) (f_var rfl).r o_none (eo_some (f_var (d := .int (z1 : Nat)) rfl))).cast (d' := strsL (l.take z1)) (by rw [cut_to, ← List.map_take]; rfl)).f.v) (((ew_sl (xs := l.map .str) (f_var rfl).r (eo_some (f_var (d := .int (z1 : Nat)) rfl)) (eo_some (e_op ok_add (f_var rfl).r (f_var rfl).r rfl))).cast (d' := strsL ((l.drop z1).take z2)) ?_).f.v) fun s1 s2 ⟨d1, e1, p1⟩ ⟨d2, e2, p2⟩ => ?_)
  · rw [← hsum]
    unfold cutD
    rw [HT.sIx_nat, HT.sIx_nat, List.length_map, Nat.min_eq_left (by omega), Nat.min_eq_left (by omega), ← List.map_drop, ← List.map_take, show z1 + z2 - z1 = z2 by omega]; rfl
  subst e1; subst e2; subst p1; subst p2
  refine s_seq (es_setW w_new ?_)
  generalize hns : l.take z1 = ns
  generalize hes : (l.drop z1).take z2 = es
  generalize hfl : l.drop (z1 + z2) = fl
  have hall : l = ns ++ es ++ fl := by
    rw [← hns, ← hes, ← hfl, List.append_assoc, ← List.drop_drop, List.take_append_drop, List.take_append_drop]
  have n1 : ns.length = z1 := by rw [← hns, List.length_take]; omega
  have n2 : es.length = z2 := by rw [← hes, List.length_take, List.length_drop]; omega
  have n3 : fl.length = z3 := by rw [← hfl, List.length_drop]; omega
  have hok := ok.ok
  have hnd := ok.nd
  rw [hall] at hok hnd
  have net : NetOk ns es := ⟨fun s hs => hok s (List.mem_append_left _ hs), (List.nodup_append.mp hnd).1, by omega, by omega, by omega, by omega⟩
  have flok : FlOk fl := ⟨fun s hs => hok s (List.mem_append_right _ hs), (List.nodup_append.mp hnd).2.1, by omega, by omega⟩
  refine s_seq (s_for (n := 0) (PL := (· = fl.map .str)) (fun ds i Γ m' => m + 660 * (3 - i) ≤ m' ∧ ∃ p q o n s10, Γ = [.val .st, .val (.int k), .val (.int f), .val (.int (z1 : Nat)), .val (.int (z2 : Nat)), .val (.int (z3 : Nat)), .val (strsL l), .val (strsL ns), .val (strsL es), .ow (.dK (flK ⟨⟨ns, es, fl.take i, o, n⟩, p, q⟩)), s10] ∧ ∀ r ∈ fl.take i, HopsOk ns es (p r) (o r) ∧ HopsOk ns es (q r) (n r)) (DI.castL (i_l ((ew_sl (xs := l.map .str) (f_var rfl).r (eo_some (e_op ok_add (f_var (d := .int (z1 : Nat)) rfl).r (f_var (d := .int (z2 : Nat)) rfl).r rfl)) o_none).f)) ?_) (fun ds e => ⟨by omega, fun _ => [], fun _ => [], fun _ _ => none, fun _ _ => none, .no, rfl, fun r h => by simp at h⟩) ?_ ?_)
  · rw [← hsum, cut_from (by rw [List.length_map]; omega), ← List.map_drop, hfl]
  · rintro ds i d Γ' m' e hd ⟨hm, p, q, o, n, s10, rfl, hh⟩
    subst e
    rw [List.getElem?_map] at hd
    cases hq : fl[i]? with
    | none => rw [hq] at hd; cases hd
    | some r =>
      rw [hq] at hd; cases hd
      have hil := (List.getElem?_eq_some_iff.mp hq).1
      refine ⟨_, _, g_name, s_less (m' := m + 660 * (3 - (i + 1)) + 660 + 0) (by omega) (s_put (n1 := 660) (n2 := 0) (P2 := (· = .str r)) rfl ?_ (e_call (n := 660) (P := fun d => ∃ o1 o2 f g, d = .tup [.dK (hopsK o1 f), .dK (hopsK o2 g)] ∧ HopsOk ns es o1 f ∧ HopsOk ns es o2 g) (ea_cons (f_var rfl) (ea_cons (f_var rfl) (ea_cons (f_var rfl) a_nil))) ⟨ns, es, rfl, net, rfl⟩) (f_var rfl) fun x y ⟨o1, o2, f1, g1, e, h1, h2⟩ e2 => ⟨.inr r, by rw [e2]; rfl, Nat.le_refl _, fun s => if s = r then o1 else p s, fun s => if s = r then o2 else q s, fun s => if s = r then f1 else o s, fun s => if s = r then g1 else n s, .val (.str r), ?_, ?_⟩)⟩
      · unfold flK; rw [List.length_map]; show (fl.take i).length < _; rw [List.length_take]; omega
      · have hn : r ∉ fl.take i := fun hm => by
          obtain ⟨j, hj, ej⟩ := List.getElem_of_mem hm
          have hj' : j < i := by rw [List.length_take] at hj; omega
          have e1 : fl[j]? = some r := by rw [← ej, List.getElem_take]; exact List.getElem?_eq_getElem _
          have := nd_ix flok.nd e1 hq
          omega
        subst e
        show [_, _, _, _, _, _, _, _, _, Sl.ow (.dK (putD (flK ⟨⟨ns, es, fl.take i, o, n⟩, p, q⟩) (.inr r) (.tup [.dK (hopsK o1 f1), .dK (hopsK o2 g1)]))), _] = _
        have : putD (flK ⟨⟨ns, es, fl.take i, o, n⟩, p, q⟩) (.inr r) (.tup [.dK (hopsK o1 f1), .dK (hopsK o2 g1)]) = flK ⟨⟨ns, es, fl.take (i + 1), fun s => if s = r then f1 else o s, fun s => if s = r then g1 else n s⟩, fun s => if s = r then o1 else p s, fun s => if s = r then o2 else q s⟩ := by
          unfold flK
          show putD ((fl.take i).map _) _ _ = (fl.take (i + 1)).map _
          rw [putD_new, take_succ hq, List.map_append]
          · congr 1
            · refine List.map_congr_left fun s hs => ?_
              have e : ¬ s = r := fun e => hn (by rw [← e]; exact hs)
              unfold flowD
              dsimp only
              rw [if_neg e, if_neg e, if_neg e, if_neg e]
            · unfold flowD
              show [_] = [_]
              dsimp only
              rw [if_pos rfl, if_pos rfl, if_pos rfl, if_pos rfl]
          · rw [List.map_map]
            intro hm
            obtain ⟨z, hz, e⟩ := List.mem_map.mp hm
            cases e; exact hn hz
        rw [this]
      · intro s hs
        rw [take_succ hq] at hs
        dsimp only
        by_cases e : s = r
        · rw [if_pos e, if_pos e, if_pos e, if_pos e]; exact ⟨h1, h2⟩
        · rw [if_neg e, if_neg e, if_neg e, if_neg e]
          rcases List.mem_append.mp hs with hs | hs
          · exact hh s hs
          · exact absurd (List.mem_singleton.mp hs) e
  · rintro ds Γ' m' e ⟨hm, p, q, o, n, s10, rfl, hh⟩
    subst e
    rw [List.length_map, List.take_length] at hh ⊢
    refine s_freeze 9 rfl (es_ret (ew_disp (kds := moK ⟨⟨ns, es, fl, o, n⟩, p, q⟩) (pr_cons rfl c_str (f_var rfl) (pr_cons rfl c_str (f_var rfl) (pr_cons rfl c_str (f_var rfl) pr_nil))) ?_ (by show 3 ≤ 15; omega)).f ⟨by omega, _, rfl, ⟨net, flok, fun r hr => (hh r hr).1, fun r hr => (hh r hr).2⟩, by show ns.length ≤ k; omega, by show fl.length ≤ f; omega⟩)
    show ([Sum.inr "nodes", Sum.inr "exits", Sum.inr "flows"] : List Key).Nodup
    decide +kernel
/-! ### _law_shape -/
def N__law_shape : List Str := ["state", "most", "flows", "model"]
def t__law_shape [Wld] (K : PySem.W.Frag) (a : Ad) : TS := (tSeq (tAsg (tCall (sp__law_model K a) [] E0 (tCons (tVar 0) (tCons (tVar 1) (tCons (tVar 2) tNil)))) (gName 3)) (tRet (tLst (tCons (tVar 3) (tCons (tSl (rSlX K) (tCall (sp__law_mixed K a) [] E0 (tCons (tVar 0) (tCons (tOp (rIxX K) (tVar 3) (tC (.str "nodes"))) tNil))) tNoPart (tPart (tCall (sp__law_draw K a) [] E0 (tCons (tVar 0) (tCons (tOp (rAddX K) (tCB (rLenX K) (tCons (tOp (rIxX K) (tVar 3) (tC (.str "nodes"))) tNil)) (tC (.int 1))) tNil))))) tNil)))))
def C_law_shape : Ct := fun ds P => ∃ k f : Nat, ds = [.st, .int k, .int f] ∧ 1 ≤ k ∧ k ≤ 8 ∧ 1 ≤ f ∧ f ≤ 3 ∧ P = fun d => ∃ mo tw, d = .lst [moD mo, strsL tw] ∧ MoOk mo ∧ TwOk mo.u.ns tw ∧ mo.u.ns.length ≤ k ∧ mo.u.fl.length ≤ f
abbrev sp__law_shape (K : PySem.W.Frag) (a : Ad) : Sp := spF K 2801 C_law_shape
theorem bd__law_shape (T : Tc K a) : ∀ {vs H Q E}, sp__law_shape K a vs H Q E → t__law_shape K a { nx := fun _ H' => Q .non H', rt := Q } (L2.start N__law_shape vs) H := body_F fun ds P m c => by
  obtain ⟨k, f, rfl, k1, k8, f1, f3, rfl⟩ := c
  show DS K _ [.val .st, .val (.int k), .val (.int f), .no] (m + 301 + 2500) _
  unfold t__law_shape
  refine s_seq (s_set (n := 2500) (e_call (n := 2500) (P := fun d => ∃ mo, d = moD mo ∧ MoOk mo ∧ mo.u.ns.length ≤ k ∧ mo.u.fl.length ≤ f) (ea_cons (f_var rfl) (ea_cons (f_var rfl) (ea_cons (f_var rfl) a_nil))) ⟨k, f, rfl, k1, k8, f1, f3, rfl⟩) fun d ⟨mo, e, ok, lk, lf⟩ => ?_)
  subst e
  have hn : ∀ {Γ : Gm}, Γ[3]? = some (.val (moD mo)) → DF K (tOp (rIxX K) (tVar 3) (tC (.str "nodes"))) Γ 0 (· = strsL mo.u.ns) := fun h => e_op ok_ix (f_var h).r c_str.r (mo_nodes mo)
  have n8 := ok.net.n8
  have nd0 : mo.u.ns.Nodup := (List.nodup_append.mp ok.net.nd).1
  have hmix : DF K (tCall (sp__law_mixed K a) [] E0 (tCons (tVar 0) (tCons (tOp (rIxX K) (tVar 3) (tC (.str "nodes"))) tNil))) [.val .st, .val (.int k), .val (.int f), .val (moD mo)] 300 (fun d => ∃ o : List Str, d = strsL o ∧ o.Perm mo.u.ns) :=
    (e_call (n := 300) (ea_cons (f_var rfl) (ea_cons (hn rfl) a_nil)) ⟨strsL mo.u.ns, mo.u.ns.map .str, rfl, rfl, by rw [List.length_map]; omega, fun y hy => by obtain ⟨s, _, rfl⟩ := List.mem_map.mp hy; rfl, rfl⟩).imp fun d ⟨l, e, p⟩ => by
      obtain ⟨o, rfl, q⟩ := perm_strs p
      exact ⟨o, e, q⟩
  have hlen : lenF (strsL mo.u.ns) = some (.int mo.u.ns.length) := by show some (D.int ((mo.u.ns.map D.str).length : Nat)) = _; rw [List.length_map]
  have hdr : DO K (tPart (tCall (sp__law_draw K a) [] E0 (tCons (tVar 0) (tCons (tOp (rAddX K) (tCB (rLenX K) (tCons (tOp (rIxX K) (tVar 3) (tC (.str "nodes"))) tNil)) (tC (.int 1))) tNil)))) [.val .st, .val (.int k), .val (.int f), .val (moD mo)] 1 (fun o => ∃ i : Nat, o = some (i : Int)) :=
    o_some (e_call (n := 1) (P := fun d => ∃ i : Nat, i < mo.u.ns.length + 1 ∧ d = .int i) (ea_cons (f_var rfl) (ea_cons (e_op ok_add (e_cb ok_len (hn rfl).r hlen).r c_int.r rfl) a_nil)) ⟨mo.u.ns.length + 1, by rw [Int.natCast_add]; rfl, by omega, by omega, rfl⟩) fun d ⟨i, _, e⟩ => ⟨(i : Int), e, i, rfl⟩
  have hsl := (w_sl (n1 := 300) (n2 := 0) (n3 := 1) (P := fun d => ∃ tw, d = strsL tw ∧ TwOk mo.u.ns tw) hmix.r o_none hdr fun x lo hi ⟨o, e, p⟩ e2 ⟨i, e3⟩ => ⟨o.map .str, e, o.take i, by rw [e2, e3, cut_to, ← List.map_take]; rfl, fun s hs => p.mem_iff.mp (List.mem_of_mem_take hs), (p.nodup_iff.mpr nd0).sublist (List.take_sublist _ _), by rw [List.length_take]; have := p.length_eq; omega⟩).f
  exact s_ret (n := 301) ((w_lst (n := 301) (a_cons (n1 := 0) (n2 := 301) (f_var (d := moD mo) rfl) (a_cons (n1 := 301) (n2 := 0) hsl a_nil)) (fun ds ⟨_, _, e, _, _, _, e2, _, e3⟩ => by rw [e, e2, e3]; show 2 ≤ 1000; omega)).f) fun d ⟨ds, e, _, _, e1, e2, _, _, e3, ⟨tw, e4, hw⟩, e5⟩ => ⟨Nat.le_refl _, mo, tw, by rw [e, e1, e2, e3, e4, e5], ok, hw, lk, lf⟩
end
end DL
set_option Elab.async false
set_option linter.all false
set_option maxRecDepth 100000
set_option maxHeartbeats 2000000
/-! Km: events of any shape, what the law says of them. -/
namespace DL
open PySem L2
/-- plain data that stands within an event -/
inductive Od where
  | non | bl (b : Bool) | int (i : Int) | str (s : Str) | ls (s : Str)
def Od.d : Od → D
  | .non => .non
  | .bl b => .bl b
  | .int i => .int i
  | .str s => .str s
  | .ls s => .lst [.str s]
def Od.hop : Od → Option (Option Str)
  | .non => some none
  | .str s => some (some s)
  | _ => none
inductive Evt where
  | one (o : Od) | tup (l : List Od)
def Evt.d : Evt → D
  | .one o => o.d
  | .tup l => .tup (l.map Od.d)
/-- the law's own state within a run -/
structure LB where
  dn : List Str
  fp : Bool
  wk : List (Option Str)
  st : Str
def boxD (b : LB) : D := .tup [strsT b.dn, .bl b.fp, walkD b.wk, .str b.st]
def boxOD : Option LB → D
  | none => .non
  | some b => boxD b
def readW (u : Up) (tw : List Str) (l s : Str) (dn : List Str) (st : Str) : Option Str :=
  if s ∈ tw then (if st = "old" then u.o l s else u.n l s) else (if s ∈ dn then u.n l s else u.o l s)
def lawMove (u : Up) (tw : List Str) (l : Str) (b : LB) (x : Od) : Option LB := match b.wk.getLast?, x.hop with
  | some (some v), some h => if v ∈ u.ns then (if readW u tw l v b.dn b.st = h then some ⟨b.dn, b.fp, b.wk ++ [h], b.st⟩ else none) else none
  | _, _ => none
def lawEnter (u : Up) (b : LB) (x : Od) : Option LB := match x with
  | .str v => if v ∈ u.ns then (if b.wk = [] then some ⟨b.dn, b.fp, [some v], if b.fp = true then "new" else "old"⟩ else none) else none
  | _ => none
def lawSwitch (u : Up) (tw : List Str) (b : LB) (x : Od) : Option LB := match x with
  | .str v => if v ∈ u.ns then (if v ∉ b.dn ∧ v ∉ tw then some ⟨b.dn ++ [v], b.fp, b.wk, b.st⟩ else none) else none
  | _ => none
def lawDone (u : Up) (tw : List Str) (l : Str) (b : LB) : Evt → Option LB
  | .tup [.str s] => if s = "flip" then (if b.fp = true then none else some ⟨b.dn, true, b.wk, b.st⟩) else none
  | .tup [.str s, x] => if s = "move" then lawMove u tw l b x else if s = "enter" then lawEnter u b x else if s = "switch" then lawSwitch u tw b x else none
  | _ => none
section
variable [Wld] {K : PySem.W.Frag} {a : Ad} {m n : Nat} {Γ : Gm} {te ta tb : TE} {t : TS} {tr : TA} {d x y : D} {E : XK} {R : Posts} {P : D → Prop}
theorem od_pl (o : Od) : Pl o.d := by cases o <;> constructor
theorem od_plain (o : Od) : o.d.plain = true := by
  cases o with
  | ls s => exact plain_map (f := D.str) (fun _ => rfl) [s]
  | _ => rfl
theorem inF_hs (w : Option Str) (l : List Str) : inF (hopD w) (.lst (l.map .str)) = some (decide (w ∈ l.map some)) := by
  have h := (inF_hops w (l.map some)).1
  rw [List.map_map] at h
  exact h
/-! ### _law_read -/
def N__law_read : List Str := ["model", "twins", "lane", "node", "done", "stamp", "old", "new"]
def t__law_read [Wld] (K : PySem.W.Frag) (a : Ad) : TS := (tSeq (tAsg (tOp (rIxX K) (tOp (rIxX K) (tVar 0) (tC (.str "flows"))) (tVar 2)) (gTup K 2 (gCons (gName 6) (gCons (gName 7) gNil)))) (tSeq (tIfS (tTest (tOp (rInX K) (tVar 3) (tVar 1))) (tRet (tIf (tTest (tOp (rEqP K) (tVar 5) (tC (.str "old")))) (tOp (rIxX K) (tVar 6) (tVar 3)) (tOp (rIxX K) (tVar 7) (tVar 3)))) tNext) (tRet (tIf (tTest (tOp (rInX K) (tVar 3) (tVar 4))) (tOp (rIxX K) (tVar 7) (tVar 3)) (tOp (rIxX K) (tVar 6) (tVar 3))))))
def C_law_read : Ct := fun ds P => ∃ mo x tw l s dn st, ds = [moD mo, x, .str l, .str s, strsT dn, .str st] ∧ isSeq x = some (tw.map .str) ∧ l ∈ mo.u.fl ∧ HopsOk mo.u.ns mo.u.es (mo.p l) (mo.u.o l) ∧ HopsOk mo.u.ns mo.u.es (mo.q l) (mo.u.n l) ∧ s ∈ mo.u.ns ∧ P = (· = hopD (readW mo.u tw l s dn st))
abbrev sp__law_read (K : PySem.W.Frag) (a : Ad) : Sp := spF K 0 C_law_read
theorem e_hop {ns es ord : List Str} {f : Str → Option Str} {s : Str} (ho : HopsOk ns es ord f) (hs : s ∈ ns) (h1 : DF K ta Γ 0 (· = .dK (hopsK ord f))) (h2 : DF K tb Γ 0 (· = .str s)) : DF K (tOp (rIxX K) ta tb) Γ 0 (· = hopD (f s)) :=
  e_op ok_ix h1.r h2.r (ix_dK (val_hops (ho.perm.mem_iff.mpr hs)))
theorem bd__law_read (T : Tc K a) : ∀ {vs H Q E}, sp__law_read K a vs H Q E → t__law_read K a { nx := fun _ H' => Q .non H', rt := Q } (L2.start N__law_read vs) H := body_F fun ds P m c => by
  obtain ⟨mo, x, tw, l, s, dn, st, rfl, hx, hl, ho, hn, hs, rfl⟩ := c
  show DS K _ [.val (moD mo), .val x, .val (.str l), .val (.str s), .val (strsT dn), .val (.str st), .no, .no] m _
  unfold t__law_read
  refine s_seq (es_tgt (d := flowD mo l) (e_op ok_ix (e_op ok_ix (f_var rfl).r c_str.r (mo_flows mo)).r (f_var (d := .str l) rfl).r (ix_dK (val_fl hl))) (g_tup (gs_cons g_name (gs_cons g_name gs_nil))) ?_)
  refine s_seq (es_if (b := decide (s ∈ tw)) (e_test (e_op ok_in (f_var (d := .str s) rfl).r (f_var rfl).r (by rw [inF_sq hx]; rfl))) (fun h => ?_) fun h => s_next ?_)
  · refine es_ret ((e_if (b := decide (st = "old")) (e_test (e_op ok_eq (f_var (d := .str st) rfl).r c_str.r (by rw [eqF_str]; rfl))) (fun _ => e_hop ho hs (f_var rfl) (f_var rfl)) fun _ => e_hop hn hs (f_var rfl) (f_var rfl)).cast (d' := hopD (readW mo.u tw l s dn st)) ?_) ⟨Nat.le_refl _, rfl⟩
    unfold readW
    rw [if_pos (of_decide_eq_true h)]
    by_cases q : st = "old"
    · rw [decide_eq_true q, if_pos rfl, if_pos q]
    · rw [decide_eq_false q, if_neg Bool.false_ne_true, if_neg q]
  · refine es_ret ((e_if (b := decide (s ∈ dn)) (e_test (e_op ok_in (f_var (d := .str s) rfl).r (f_var (d := strsT dn) rfl).r (by rw [strsT, (inF_strs s dn).2]; rfl))) (fun _ => e_hop hn hs (f_var rfl) (f_var rfl)) fun _ => e_hop ho hs (f_var rfl) (f_var rfl)).cast (d' := hopD (readW mo.u tw l s dn st)) ?_) ⟨Nat.le_refl _, rfl⟩
    unfold readW
    rw [if_neg (of_decide_eq_false h)]
    by_cases q : s ∈ dn
    · rw [decide_eq_true q, if_pos rfl, if_pos q]
    · rw [decide_eq_false q, if_neg Bool.false_ne_true, if_neg q]
/-! ### tests of events -/
def badShape : Evt → Bool
  | .tup [.str _] => false
  | .tup [.str _, _] => false
  | _ => true
def isFlip : Evt → Bool
  | .tup [.str s] => decide (s = "flip")
  | _ => false
theorem inF_12 (k : Int) : inF (.int k) (.tup [.int 1, .int 2]) = some (decide (1 = k) || decide (2 = k)) := by
  rw [(inF_plain (x := .int k) (l := [.int 1, .int 2]) rfl (fun y hy => by
    rcases List.mem_cons.mp hy with rfl | hy
    · rfl
    · rw [List.mem_singleton.mp hy]; rfl)).2]
  show some (D.eqv (.int 1) (.int k) || (D.eqv (.int 2) (.int k) || false)) = _
  rw [eqv_int, eqv_int, Bool.or_false]
theorem e_two : DF K (tTup (tCons (tC (.int 1)) (tCons (tC (.int 2)) tNil))) Γ 0 (· = .tup [.int 1, .int 2]) := e_tup (ea_cons c_int (ea_cons c_int a_nil)) (by show 2 ≤ 1000; omega)
theorem t_shape {e : Evt} (h : DF K te Γ 0 (· = e.d)) : DT K (tOr (tNot (tTru K (tCB (rIsiX K) (tCons te (tCons (tC (.ty "tuple")) tNil))))) (tOr (tTest (tOp (rNinX K) (tCB (rLenX K) (tCons te tNil)) (tTup (tCons (tC (.int 1)) (tCons (tC (.int 2)) tNil))))) (tNot (tTru K (tCB (rIsiX K) (tCons (tOp (rIxX K) te (tC (.int 0))) (tCons (tC (.ty "str")) tNil))))))) Γ 0 (· = badShape e) := by
  cases e with
  | one o => cases o <;> exact e_or (b := true) (c := true) (e_not (b := false) (e_truB (isi_T h.r (by constructor)))) (fun h => nomatch h)
  | tup l =>
    have hT := e_not (b := true) (e_truB (isi_T h.r (.tup _)))
    rcases l with _ | ⟨x, _ | ⟨y, _ | ⟨z, r⟩⟩⟩
    · exact e_or (b := false) (c := true) hT fun _ => e_or (b := true) (c := true) (e_test (e_op ok_nin (e_len' h.r rfl).r e_two.r (by show blF (notO (inF (.int 0) _)) = _; rw [inF_12]; rfl))) (fun h => nomatch h)
    · have h2 := e_or (b := false) (c := !(isTS x.d)) (e_test (e_op ok_nin (e_len' h.r rfl).r e_two.r (z := .bl false) (by show blF (notO (inF (.int 1) _)) = _; rw [inF_12]; rfl))) fun _ => e_not (e_truB (isi_S (e_op ok_ix h.r c_int.r (ix_tup (i := 0) (x := x.d) rfl)).r (od_pl x)))
      have h3 := e_or (b := false) hT fun _ => h2
      cases x <;> exact h3
    · have h2 := e_or (b := false) (c := !(isTS x.d)) (e_test (e_op ok_nin (e_len' h.r rfl).r e_two.r (z := .bl false) (by show blF (notO (inF (.int 2) _)) = _; rw [inF_12]; rfl))) fun _ => e_not (e_truB (isi_S (e_op ok_ix h.r c_int.r (ix_tup (i := 0) (x := x.d) rfl)).r (od_pl x)))
      have h3 := e_or (b := false) hT fun _ => h2
      cases x <;> exact h3
    · have h2 := e_or (b := true) (c := true) (u := tNot (tTru K (tCB (rIsiX K) (tCons (tOp (rIxX K) te (tC (.int 0))) (tCons (tC (.ty "str")) tNil))))) (e_test (e_op ok_nin (e_len' h.r rfl).r e_two.r (z := .bl true) (by
        show blF (notO (inF (.int ((Od.d x :: Od.d y :: Od.d z :: r.map Od.d).length : Nat)) _)) = _
        rw [inF_12, decide_eq_false (by simp only [List.length_cons]; omega), decide_eq_false (by simp only [List.length_cons]; omega)]; rfl))) (fun h => nomatch h)
      have h3 := e_or (b := false) hT fun _ => h2
      cases x <;> exact h3
theorem flip_one (s : Str) : eqF (.tup [.str s]) (.tup [.str "flip"]) = some (decide (s = "flip")) := by
  have h := eqF_tup (f := D.str) (k := 0) (fun _ => rfl) (fun _ => Nat.le_refl _) (by omega) eqv_str [s] ["flip"]
  have e : decide ([s] = (["flip"] : List Str)) = decide (s = "flip") := by
    by_cases q : s = "flip"
    · rw [q]; simp
    · simp [q]
  rw [e] at h
  exact h
theorem flip_two (s : Str) (x : Od) : eqF (.tup [.str s, x.d]) (.tup [.str "flip"]) = some false := by
  unfold eqF
  have p1 : (D.tup [.str s, x.d]).plain = true := plain_tup.mpr fun y hy => by
    rcases List.mem_cons.mp hy with rfl | hy
    · rfl
    · rw [List.mem_singleton.mp hy]; exact od_plain x
  have p2 : (D.tup [.str "flip"]).plain = true := plain_mapT (f := D.str) (fun _ => rfl) ["flip"]
  have p3 : (D.tup [.str "flip"]).depth ≤ 60 := Nat.le_trans (depth_map (f := D.str) (k := 0) (fun _ => Nat.le_refl _) ["flip"]) (by omega)
  rw [if_pos ⟨p1, p2, Nat.le_trans (Nat.min_le_right _ _) p3⟩]
  show some (PyData.eqvAll (pyL [.str s, x.d]) (pyL [.str "flip"])) = _
  simp [pyL, PyData.eqvAll]
theorem t_flip {e : Evt} (hb : badShape e = false) (h : DF K te Γ 0 (· = e.d)) : DT K (tTest (tOp (rEqP K) te (tTup (tCons (tC (.str "flip")) tNil)))) Γ 0 (· = isFlip e) := by
  have hf : DF K (tTup (tCons (tC (.str "flip")) tNil)) Γ 0 (· = .tup [.str "flip"]) := e_tup (ea_cons c_str a_nil) (by show 1 ≤ 1000; omega)
  match e, hb, h with
  | .tup [.str s], _, h => exact e_test (e_op ok_eq h.r hf.r (by show blF (eqF (.tup [.str s]) _) = _; rw [flip_one]; rfl))
  | .tup [.str s, x], _, h => exact e_test (e_op ok_eq h.r hf.r (by show blF (eqF (.tup [.str s, x.d]) _) = _; rw [flip_two]; rfl))
def isTwo : Evt → Bool
  | .tup [_, _] => true
  | _ => false
def kinds : List Str := ["switch", "enter", "move"]
theorem t_len {e : Evt} (hb : badShape e = false) (h : DF K te Γ 0 (· = e.d)) : DT K (tTest (tOp (rNeP K) (tCB (rLenX K) (tCons te tNil)) (tC (.int 2)))) Γ 0 (· = !isTwo e) := by
  match e, hb, h with
  | .tup [.str s], _, h => exact e_test (e_op ok_ne (e_len' h.r rfl).r c_int.r (by show blF (notO (eqF (.int 1) _)) = _; rw [eqF_int]; rfl))
  | .tup [.str s, x], _, h => exact e_test (e_op ok_ne (e_len' h.r rfl).r c_int.r (by show blF (notO (eqF (.int 2) _)) = _; rw [eqF_int]; rfl))
theorem e_kinds : DF K (tTup (tCons (tC (.str "switch")) (tCons (tC (.str "enter")) (tCons (tC (.str "move")) tNil)))) Γ 0 (· = .tup (kinds.map .str)) := e_tup (ea_cons c_str (ea_cons c_str (ea_cons c_str a_nil))) (by show 3 ≤ 1000; omega)
theorem e_head {l : List Od} {o : Od} (h : DF K te Γ 0 (· = (Evt.tup (o :: l)).d)) : DF K (tOp (rIxX K) te (tC (.int 0))) Γ 0 (· = o.d) := e_op ok_ix h.r c_int.r (ix_tup (i := 0) rfl)
theorem e_next {l : List Od} {o p : Od} (h : DF K te Γ 0 (· = (Evt.tup (o :: p :: l)).d)) : DF K (tOp (rIxX K) te (tC (.int 1))) Γ 0 (· = p.d) := e_op ok_ix h.r c_int.r (ix_tup (i := 1) rfl)
theorem t_headIs {s z : Str} {l : List Od} (h : DF K te Γ 0 (· = (Evt.tup (.str s :: l)).d)) : DT K (tTest (tOp (rEqP K) (tOp (rIxX K) te (tC (.int 0))) (tC (.str z)))) Γ 0 (· = decide (s = z)) :=
  e_test (e_op ok_eq (e_head h).r c_str.r (by show blF (eqF (.str s) _) = _; rw [eqF_str]; rfl))
theorem t_kind {s : Str} {x : Od} (h : DF K te Γ 0 (· = (Evt.tup [.str s, x]).d)) : DT K (tOr (tTest (tOp (rNeP K) (tCB (rLenX K) (tCons te tNil)) (tC (.int 2)))) (tTest (tOp (rNinX K) (tOp (rIxX K) te (tC (.int 0))) (tTup (tCons (tC (.str "switch")) (tCons (tC (.str "enter")) (tCons (tC (.str "move")) tNil))))))) Γ 0 (· = !decide (s ∈ kinds)) :=
  e_or (b := false) (t_len rfl h) fun _ => e_test (e_op ok_nin (e_head h).r e_kinds.r (by show blF (notO (inF (.str s) _)) = _; rw [(inF_strs s kinds).2]; rfl))
/-! ### _law_event_done -/
def N__law_event_done : List Str := ["model", "twins", "lane", "box", "event", "done", "flips", "walk", "stamp", "name", "hop"]
def t__law_event_done [Wld] (K : PySem.W.Frag) (a : Ad) : TS := (tSeq (tAsg (tVar 3) (gTup K 4 (gCons (gName 5) (gCons (gName 6) (gCons (gName 7) (gCons (gName 8) gNil)))))) (tSeq (tIfS (tOr (tNot (tTru K (tCB (rIsiX K) (tCons (tVar 4) (tCons (tC (.ty "tuple")) tNil))))) (tOr (tTest (tOp (rNinX K) (tCB (rLenX K) (tCons (tVar 4) tNil)) (tTup (tCons (tC (.int 1)) (tCons (tC (.int 2)) tNil))))) (tNot (tTru K (tCB (rIsiX K) (tCons (tOp (rIxX K) (tVar 4) (tC (.int 0))) (tCons (tC (.ty "str")) tNil))))))) (tRet (tC .non)) tNext) (tSeq (tIfS (tTest (tOp (rEqP K) (tVar 4) (tTup (tCons (tC (.str "flip")) tNil)))) (tRet (tIf (tNot (tTru K (tVar 6))) (tTup (tCons (tVar 5) (tCons (tC (.bl true)) (tCons (tVar 7) (tCons (tVar 8) tNil))))) (tC .non))) tNext) (tSeq (tIfS (tOr (tTest (tOp (rNeP K) (tCB (rLenX K) (tCons (tVar 4) tNil)) (tC (.int 2)))) (tTest (tOp (rNinX K) (tOp (rIxX K) (tVar 4) (tC (.int 0))) (tTup (tCons (tC (.str "switch")) (tCons (tC (.str "enter")) (tCons (tC (.str "move")) tNil))))))) (tRet (tC .non)) tNext) (tSeq (tAsg (tOp (rIxX K) (tVar 4) (tC (.int 1))) (gName 9)) (tSeq (tIfS (tTest (tOp (rEqP K) (tOp (rIxX K) (tVar 4) (tC (.int 0))) (tC (.str "move")))) (tSeq (tIfS (tOr (tTest (tOp (rEqP K) (tVar 7) (tTup tNil))) (tOr (tTest (tOp (rNinX K) (tOp (rIxX K) (tVar 7) (tUn (rU fun i => .int (-i)) (tC (.int 1)))) (tOp (rIxX K) (tVar 0) (tC (.str "nodes"))))) (tAnd (tTest (tOp (L2.rNotN) (tVar 9) (tC .non))) (tNot (tTru K (tCB (rIsiX K) (tCons (tVar 9) (tCons (tC (.ty "str")) tNil)))))))) (tRet (tC .non)) tNext) (tSeq (tAsg (tCall (sp__law_read K a) [] E0 (tCons (tVar 0) (tCons (tVar 1) (tCons (tVar 2) (tCons (tOp (rIxX K) (tVar 7) (tUn (rU fun i => .int (-i)) (tC (.int 1)))) (tCons (tVar 5) (tCons (tVar 8) tNil))))))) (gName 10)) (tRet (tIf (tTest (tOp (rEqP K) (tVar 10) (tVar 9))) (tTup (tCons (tVar 5) (tCons (tVar 6) (tCons (tOp (rAddX K) (tVar 7) (tTup (tCons (tVar 10) tNil))) (tCons (tVar 8) tNil))))) (tC .non))))) tNext) (tSeq (tIfS (tOr (tNot (tTru K (tCB (rIsiX K) (tCons (tVar 9) (tCons (tC (.ty "str")) tNil))))) (tTest (tOp (rNinX K) (tVar 9) (tOp (rIxX K) (tVar 0) (tC (.str "nodes")))))) (tRet (tC .non)) tNext) (tSeq (tIfS (tTest (tOp (rEqP K) (tOp (rIxX K) (tVar 4) (tC (.int 0))) (tC (.str "enter")))) (tRet (tIf (tTest (tOp (rEqP K) (tVar 7) (tTup tNil))) (tTup (tCons (tVar 5) (tCons (tVar 6) (tCons (tTup (tCons (tVar 9) tNil)) (tCons (tIf (tTru K (tVar 6)) (tC (.str "new")) (tC (.str "old"))) tNil))))) (tC .non))) tNext) (tRet (tIf (tAnd (tTest (tOp (rNinX K) (tVar 9) (tVar 5))) (tTest (tOp (rNinX K) (tVar 9) (tVar 1)))) (tTup (tCons (tOp (rAddX K) (tVar 5) (tTup (tCons (tVar 9) tNil))) (tCons (tVar 6) (tCons (tVar 7) (tCons (tVar 8) tNil))))) (tC .non)))))))))))
structure LBOk (b : LB) : Prop where
  d : b.dn.length ≤ 1000
  w : b.wk.length ≤ 1000
structure MoArg (mo : Mo) (l : Str) : Prop where
  fl : l ∈ mo.u.fl
  o : HopsOk mo.u.ns mo.u.es (mo.p l) (mo.u.o l)
  n : HopsOk mo.u.ns mo.u.es (mo.q l) (mo.u.n l)
def C_law_event_done : Ct := fun ds P => ∃ mo x tw l b e, ds = [moD mo, x, .str l, boxD b, Evt.d e] ∧ isSeq x = some (tw.map .str) ∧ MoArg mo l ∧ LBOk b ∧ P = (· = boxOD (lawDone mo.u tw l b e))
abbrev sp__law_event_done (K : PySem.W.Frag) (a : Ad) : Sp := spF K 0 C_law_event_done
theorem e_neg1 : DF K (tUn (rU fun i => .int (-i)) (tC (.int 1))) Γ 0 (· = .int (-1)) := f_neg c_int.r fun x e => ⟨1, e, rfl⟩
theorem ix_last {w : List (Option Str)} {h : Option Str} (q : w.getLast? = some h) : ixF (walkD w) (.int (-1)) = some (hopD h) := by
  obtain ⟨i, rfl⟩ : ∃ i, w = i ++ [h] := by
    cases e : w.reverse with
    | nil => rw [List.reverse_eq_nil_iff.mp e] at q; cases q
    | cons y r =>
      have e2 : w = r.reverse ++ [y] := by rw [← List.reverse_reverse w, e, List.reverse_cons]
      rw [e2, List.getLast?_append] at q
      cases q
      exact ⟨_, e2⟩
  show atI ((i ++ [h]).map hopD) (-1) = _
  rw [List.map_append]; exact atI_last _ _
theorem e_box {b : LB} {t1 t2 t3 t4 : TE} (h1 : DF K t1 Γ 0 (· = strsT b.dn)) (h2 : DF K t2 Γ 0 (· = .bl b.fp)) (h3 : DF K t3 Γ 0 (· = walkD b.wk)) (h4 : DF K t4 Γ 0 (· = .str b.st)) : DF K (tTup (tCons t1 (tCons t2 (tCons t3 (tCons t4 tNil))))) Γ 0 (· = boxD b) :=
  e_tup (ea_cons h1 (ea_cons h2 (ea_cons h3 (ea_cons h4 a_nil)))) (by show 4 ≤ 1000; omega)
theorem t_emptyW {w : List (Option Str)} (h : DF K te Γ 0 (· = walkD w)) : DT K (tTest (tOp (rEqP K) te (tTup tNil))) Γ 0 (· = decide (w = [])) :=
  e_test (e_op ok_eq h.r (e_tup (ds := []) a_nil (by decide)).r (by show blF (eqF (.tup (w.map hopD)) (.tup (List.map hopD []))) = _; rw [eqF_walk]; rfl))
theorem t_inN {w : Option Str} {mo : Mo} {i : Nat} (h : DF K te Γ 0 (· = hopD w)) (h0 : Γ[i]? = some (.val (moD mo))) : DT K (tTest (tOp (rNinX K) te (tOp (rIxX K) (tVar i) (tC (.str "nodes"))))) Γ 0 (· = !decide (w ∈ mo.u.ns.map some)) :=
  e_test (e_op ok_nin h.r (e_op ok_ix (f_var h0).r c_str.r (mo_nodes mo)).r (by rw [strsL, inF_hs]; rfl))
theorem t_oddHop {o : Od} (h : DF K te Γ 0 (· = o.d)) : DT K (tAnd (tTest (tOp (L2.rNotN) te (tC .non))) (tNot (tTru K (tCB (rIsiX K) (tCons te (tCons (tC (.ty "str")) tNil)))))) Γ 0 (· = !o.hop.isSome) := by
  cases o with
  | non => exact e_and (b := false) (c := false) (e_test (e_op ok_notN h.r c_non.r rfl)) (fun h => nomatch h)
  | bl b => exact e_and (b := true) (c := true) (e_test (e_op ok_notN h.r c_non.r rfl)) fun _ => e_not (b := false) (e_truB (isi_S h.r (.bl _)))
  | int b => exact e_and (b := true) (c := true) (e_test (e_op ok_notN h.r c_non.r rfl)) fun _ => e_not (b := false) (e_truB (isi_S h.r (.int _)))
  | str b => exact e_and (b := true) (c := false) (e_test (e_op ok_notN h.r c_non.r rfl)) fun _ => e_not (b := true) (e_truB (isi_S h.r (.str _)))
  | ls b => exact e_and (b := true) (c := true) (e_test (e_op ok_notN h.r c_non.r rfl)) fun _ => e_not (b := false) (e_truB (isi_S h.r (.lst _)))
def isOS : Od → Bool
  | .str _ => true
  | _ => false
theorem t_isS {o : Od} (h : DF K te Γ 0 (· = o.d)) : DT K (tTru K (tCB (rIsiX K) (tCons te (tCons (tC (.ty "str")) tNil)))) Γ 0 (· = isOS o) :=
  (e_truB (isi_S h.r (od_pl o))).cast (by cases o <;> rfl)
theorem hop_d {o : Od} {h : Option Str} (e : o.hop = some h) : o.d = hopD h := by cases o <;> cases e <;> rfl
theorem mem_some {v : Str} {l : List Str} : some v ∈ l.map some ↔ v ∈ l := ⟨fun h => by obtain ⟨s, hs, e⟩ := List.mem_map.mp h; cases e; exact hs, fun h => List.mem_map_of_mem h⟩
theorem bd__law_event_done (T : Tc K a) : ∀ {vs H Q E}, sp__law_event_done K a vs H Q E → t__law_event_done K a { nx := fun _ H' => Q .non H', rt := Q } (L2.start N__law_event_done vs) H := body_F fun ds P m c => by
  obtain ⟨mo, x, tw, l, b, e, rfl, hx, ma, bk, rfl⟩ := c
  show DS K _ [.val (moD mo), .val x, .val (.str l), .val (boxD b), .val e.d, .no, .no, .no, .no, .no, .no] m _
  unfold t__law_event_done
  refine s_seq (es_tgt (d := boxD b) (f_var rfl) (g_tup (gs_cons g_name (gs_cons g_name (gs_cons g_name (gs_cons g_name gs_nil))))) ?_)
  show DS K _ [.val (moD mo), .val x, .val (.str l), .val (boxD b), .val e.d, .val (strsT b.dn), .val (.bl b.fp), .val (walkD b.wk), .val (.str b.st), .no, .no] m _
  refine s_seq (es_if (t_shape (e := e) (f_var rfl)) (fun h => es_ret c_non ⟨Nat.le_refl _, ?_⟩) fun hb => s_next ?_)
  · unfold lawDone
    split
    · cases h
    · cases h
    · rfl
  refine s_seq (es_if (t_flip hb (f_var rfl)) (fun hf => ?_) fun hf => s_next ?_)
  · have : ∃ s, e = .tup [.str s] ∧ s = "flip" := by
      match e, hf with
      | .tup [.str s], hf => exact ⟨s, rfl, of_decide_eq_true hf⟩
    obtain ⟨s, rfl, hs⟩ := this
    refine es_ret ((e_if (b := !b.fp) (e_not (e_truB (f_var (d := .bl b.fp) rfl))) (fun _ => e_box (b := ⟨b.dn, true, b.wk, b.st⟩) (f_var rfl) c_bl (f_var rfl) (f_var rfl)) fun _ => c_non).cast ?_) ⟨Nat.le_refl _, rfl⟩
    show _ = boxOD (if s = "flip" then _ else none)
    rw [if_pos hs]
    cases b.fp <;> rfl
  match e, hb, hf with
  | .tup [.str s], hb, hf =>
    refine s_seq (es_if (e_or (b := true) (c := true) (t_len (e := .tup [.str s]) rfl (f_var rfl)) (fun h => nomatch h)) (fun h => es_ret c_non ⟨Nat.le_refl _, ?_⟩) (fun h => nomatch h))
    show D.non = boxOD (if s = "flip" then _ else none)
    rw [if_neg (of_decide_eq_false hf)]; rfl
  | .tup [.str s, o], hb, _ =>
    refine s_seq (es_if (t_kind (f_var rfl)) (fun h => es_ret c_non ⟨Nat.le_refl _, ?_⟩) fun h => s_next ?_)
    · have h : ¬ s ∈ kinds := by simpa using h
      have h1 : ¬ s = "move" := fun e => h (by rw [e]; decide +kernel)
      have h2 : ¬ s = "enter" := fun e => h (by rw [e]; decide +kernel)
      have h3 : ¬ s = "switch" := fun e => h (by rw [e]; decide +kernel)
      show D.non = boxOD (if s = "move" then _ else if s = "enter" then _ else if s = "switch" then _ else none)
      rw [if_neg h1, if_neg h2, if_neg h3]; rfl
    have hk : s ∈ kinds := by simpa using h
    refine s_seq (es_set (e_next (f_var rfl)) ?_)
    show DS K _ [.val (moD mo), .val x, .val (.str l), .val (boxD b), .val (Evt.d (.tup [.str s, o])), .val (strsT b.dn), .val (.bl b.fp), .val (walkD b.wk), .val (.str b.st), .val o.d, .no] m _
    refine s_seq (es_if (t_headIs (f_var rfl)) (fun hm => ?_) fun hm => s_next ?_)
    · -- move
      have hm := of_decide_eq_true hm
      have hd : lawDone mo.u tw l b (.tup [.str s, o]) = lawMove mo.u tw l b o := by show (if s = "move" then _ else _) = _; rw [if_pos hm]
      rw [hd]
      cases hq : b.wk.getLast? with
      | none =>
        have hw : b.wk = [] := List.getLast?_eq_none_iff.mp hq
        refine s_seq (es_if (e_or (b := true) (c := true) ((t_emptyW (w := b.wk) (f_var rfl)).cast (decide_eq_true hw)) (fun h => nomatch h)) (fun _ => es_ret c_non ⟨Nat.le_refl _, ?_⟩) (fun h => nomatch h))
        unfold lawMove; rw [hq]; rfl
      | some w =>
        have hw : ¬ b.wk = [] := fun e => by rw [e] at hq; cases hq
        have g1 : DF K (tOp (rIxX K) (tVar 7) (tUn (rU fun i => .int (-i)) (tC (.int 1)))) [.val (moD mo), .val x, .val (.str l), .val (boxD b), .val (Evt.d (.tup [.str s, o])), .val (strsT b.dn), .val (.bl b.fp), .val (walkD b.wk), .val (.str b.st), .val o.d, .no] 0 (· = hopD w) := e_op ok_ix (f_var rfl).r e_neg1.r (ix_last hq)
        refine s_seq (es_if (b := !decide (w ∈ mo.u.ns.map some) || !o.hop.isSome) (e_or (b := false) ((t_emptyW (w := b.wk) (f_var rfl)).cast (decide_eq_false hw)) fun _ => e_or (t_inN g1 rfl) fun _ => t_oddHop (f_var rfl)) (fun h => es_ret c_non ⟨Nat.le_refl _, ?_⟩) fun h => s_next ?_)
        · unfold lawMove; rw [hq]
          cases w with
          | none => rfl
          | some v =>
            cases ho : o.hop with
            | none => rfl
            | some p =>
              rw [ho] at h
              have : ¬ v ∈ mo.u.ns := by
                rw [← mem_some]; simpa using h
              dsimp only
              rw [if_neg this]; rfl
        · have h : w ∈ mo.u.ns.map some ∧ o.hop.isSome = true := by simpa using h
          obtain ⟨v, hv, rfl⟩ := List.mem_map.mp h.1
          obtain ⟨p, hp⟩ := Option.isSome_iff_exists.mp h.2
          refine s_seq (es_set (e_call (n := 0) (ea_cons (f_var rfl) (ea_cons (f_var rfl) (ea_cons (f_var rfl) (ea_cons g1 (ea_cons (f_var rfl) (ea_cons (f_var rfl) a_nil)))))) ⟨mo, x, tw, l, v, b.dn, b.st, rfl, hx, ma.fl, ma.o, ma.n, hv, rfl⟩) ?_)
          have hl1 : b.wk.length ≤ 1000 := bk.w
          refine es_ret ((e_if (b := decide (readW mo.u tw l v b.dn b.st = p)) (e_test (e_op ok_eq (f_var (d := hopD _) rfl).r (f_var (d := hopD p) (by rw [← hop_d hp]; rfl)).r (by rw [eqF_hop]; rfl))) (fun hh => e_box (b := ⟨b.dn, b.fp, b.wk ++ [p], b.st⟩) (f_var rfl) (f_var rfl) ((e_op ok_add (f_var (d := walkD b.wk) rfl).r (e_tup (ea_cons (f_var (d := hopD (readW mo.u tw l v b.dn b.st)) rfl) a_nil) (by show 1 ≤ 1000; omega)).r (z := walkD (b.wk ++ [p])) ?_)) (f_var rfl)) fun _ => c_non).cast ?_) ⟨Nat.le_refl _, rfl⟩
          · rw [of_decide_eq_true hh]
            show (if (b.wk.map hopD).length + 1 ≤ sizeLine then some (D.tup (b.wk.map hopD ++ [hopD p])) else none) = _
            rw [if_pos (by rw [List.length_map, sizeLine_eq]; omega), walkD, List.map_append]; rfl
          · unfold lawMove; rw [hq, hp]
            dsimp only
            rw [if_pos hv]
            by_cases q : readW mo.u tw l v b.dn b.st = p
            · rw [decide_eq_true q, if_pos rfl, if_pos q]; rfl
            · rw [decide_eq_false q, if_neg Bool.false_ne_true, if_neg q]; rfl
    have hm := of_decide_eq_false hm
    have hd : lawDone mo.u tw l b (.tup [.str s, o]) = if s = "enter" then lawEnter mo.u b o else lawSwitch mo.u tw b o := by
      show (if s = "move" then _ else if s = "enter" then _ else if s = "switch" then _ else _) = _
      rw [if_neg hm]
      by_cases q : s = "enter"
      · rw [if_pos q, if_pos q]
      · rw [if_neg q, if_neg q, if_pos]
        rcases List.mem_cons.mp hk with h | h
        · exact h
        · rcases List.mem_cons.mp h with h | h
          · exact absurd h q
          · exact absurd (List.mem_singleton.mp h) hm
    rw [hd]
    have hI : DT K (tTru K (tCB (rIsiX K) (tCons (tVar 9) (tCons (tC (.ty "str")) tNil)))) [.val (moD mo), .val x, .val (.str l), .val (boxD b), .val (Evt.d (.tup [.str s, o])), .val (strsT b.dn), .val (.bl b.fp), .val (walkD b.wk), .val (.str b.st), .val o.d, .no] 0 (· = isOS o) := t_isS (f_var rfl)
    cases o with
    | str v =>
      refine s_seq (es_if (b := !decide (v ∈ mo.u.ns)) (e_or (b := false) (e_not (b := true) (e_truB (isi_S (f_var (d := .str v) rfl).r (.str _)))) fun _ => (t_inN (w := some v) (f_var rfl) rfl).cast (by rw [decide_eq_decide.mpr mem_some]; cases decide (v ∈ mo.u.ns) <;> rfl)) (fun h => es_ret c_non ⟨Nat.le_refl _, ?_⟩) fun h => s_next ?_)
      · have h : ¬ v ∈ mo.u.ns := by simpa using h
        unfold lawEnter lawSwitch
        dsimp only
        rw [if_neg h, if_neg h]
        split <;> rfl
      have hv : v ∈ mo.u.ns := by simpa using h
      refine s_seq (es_if (t_headIs (f_var rfl)) (fun hm => ?_) fun hm => s_next ?_)
      · rw [if_pos (of_decide_eq_true hm)]
        refine es_ret ((e_if (b := decide (b.wk = [])) (t_emptyW (w := b.wk) (f_var rfl)) (fun hh => e_box (b := ⟨b.dn, b.fp, [some v], if b.fp = true then "new" else "old"⟩) (f_var rfl) (f_var rfl) (e_tup (ea_cons (f_var (d := .str v) rfl) a_nil) (by show 1 ≤ 1000; omega)) ((e_if (b := b.fp) (e_truB (f_var rfl)) (fun _ => c_str) fun _ => c_str).cast ?_)) fun _ => c_non).cast ?_) ⟨Nat.le_refl _, rfl⟩
        · cases b.fp <;> rfl
        · unfold lawEnter
          dsimp only
          rw [if_pos hv]
          by_cases q : b.wk = []
          · rw [decide_eq_true q, if_pos rfl, if_pos q]; rfl
          · rw [decide_eq_false q, if_neg Bool.false_ne_true, if_neg q]; rfl
      · rw [if_neg (of_decide_eq_false hm)]
        have hl1 : b.dn.length ≤ 1000 := bk.d
        refine es_ret ((e_if (b := !decide (v ∈ b.dn) && !decide (v ∈ tw)) (e_and (e_test (e_op ok_nin (f_var (d := .str v) rfl).r (f_var (d := strsT b.dn) rfl).r (by rw [strsT, (inF_strs v b.dn).2]; rfl))) fun _ => e_test (e_op ok_nin (f_var (d := .str v) rfl).r (f_var rfl).r (by rw [inF_sq hx]; rfl))) (fun hh => e_box (b := ⟨b.dn ++ [v], b.fp, b.wk, b.st⟩) ((e_op ok_add (f_var (d := strsT b.dn) rfl).r (e_tup (ea_cons (f_var (d := .str v) rfl) a_nil) (by show 1 ≤ 1000; omega)).r (z := strsT (b.dn ++ [v])) ?_)) (f_var rfl) (f_var rfl) (f_var rfl)) fun _ => c_non).cast ?_) ⟨Nat.le_refl _, rfl⟩
        · show (if (b.dn.map D.str).length + 1 ≤ sizeLine then some (D.tup (b.dn.map D.str ++ [D.str v])) else none) = _
          rw [if_pos (by rw [List.length_map, sizeLine_eq]; omega), strsT, List.map_append]; rfl
        · unfold lawSwitch
          dsimp only
          rw [if_pos hv]
          by_cases q : v ∉ b.dn ∧ v ∉ tw
          · rw [if_pos q, if_pos (by simpa using q)]; rfl
          · rw [if_neg q, if_neg (by simpa using q)]; rfl
    | _ =>
      refine s_seq (es_if (e_or (b := true) (c := true) (e_not (b := false) hI) (fun h => nomatch h)) (fun _ => es_ret c_non ⟨Nat.le_refl _, ?_⟩) (fun h => nomatch h))
      unfold lawEnter lawSwitch
      dsimp only
      split <;> rfl
end
end DL
set_option Elab.async false
set_option linter.all false
set_option maxRecDepth 100000
set_option maxHeartbeats 2000000
/-! Kn: runs shown and drawn by the law. -/
namespace DL
open PySem L2
def b0 : LB := ⟨[], false, [], ""⟩
def lawAll (u : Up) (tw : List Str) (l : Str) : LB → List Evt → Option LB
  | b, [] => some b
  | b, e :: es => (lawDone u tw l b e).bind fun b' => lawAll u tw l b' es
theorem lawAll_append {u : Up} {tw : List Str} {l : Str} : ∀ (es fs : List Evt) (b : LB), lawAll u tw l b (es ++ fs) = (lawAll u tw l b es).bind fun b' => lawAll u tw l b' fs
  | [], fs, b => rfl
  | e :: es, fs, b => by
    show (lawDone u tw l b e).bind _ = ((lawDone u tw l b e).bind _).bind _
    cases lawDone u tw l b e with
    | none => rfl
    | some b' => exact lawAll_append es fs b'
theorem lawAll_snoc {u : Up} {tw : List Str} {l : Str} (es : List Evt) (e : Evt) (b : LB) : lawAll u tw l b (es ++ [e]) = (lawAll u tw l b es).bind fun b' => lawDone u tw l b' e := by
  rw [lawAll_append]
  congr 1
  funext b'
  show (lawDone u tw l b' e).bind some = _
  cases lawDone u tw l b' e <;> rfl
def lawShows (u : Up) (tw : List Str) (l : Str) (w : List (Option Str)) (es : List Evt) : Bool := match lawAll u tw l b0 es with
  | none => false
  | some b => decide (b.wk = w)
structure LBLe (b : LB) (k : Nat) : Prop where
  d : b.dn.length ≤ k
  w : b.wk.length ≤ k
theorem lawDone_le {u : Up} {tw : List Str} {l : Str} {b b' : LB} {e : Evt} {k : Nat} (h : lawDone u tw l b e = some b') (hb : LBLe b k) : LBLe b' (k + 1) := by
  have h1 := hb.d
  have h2 := hb.w
  unfold lawDone at h
  split at h
  · split at h
    · split at h
      · cases h
      · cases h; exact ⟨by dsimp only; omega, by dsimp only; omega⟩
    · cases h
  · split at h
    · unfold lawMove at h
      split at h
      · split at h
        · split at h
          · cases h; exact ⟨by dsimp only; omega, by rw [List.length_append, List.length_singleton]; omega⟩
          · cases h
        · cases h
      · cases h
    · split at h
      · unfold lawEnter at h
        split at h
        · split at h
          · split at h
            · cases h; exact ⟨by dsimp only; omega, by rw [List.length_singleton]; omega⟩
            · cases h
          · cases h
        · cases h
      · split at h
        · unfold lawSwitch at h
          split at h
          · split at h
            · split at h
              · cases h; exact ⟨by rw [List.length_append, List.length_singleton]; omega, by dsimp only; omega⟩
              · cases h
            · cases h
          · cases h
        · cases h
  · cases h
def odOf : Option Str → Od
  | none => .non
  | some s => .str s
def Ev.t : Ev → Evt
  | .flip => .tup [.str "flip"]
  | .enter s => .tup [.str "enter", .str s]
  | .switch s => .tup [.str "switch", .str s]
  | .move h => .tup [.str "move", odOf h]
theorem evt_d (e : Ev) : (Ev.t e).d = evD e := by
  cases e with
  | move h => cases h <;> rfl
  | _ => rfl
theorem evt_map (es : List Ev) : (es.map Ev.t).map Evt.d = es.map evD := by
  rw [List.map_map]; exact List.map_congr_left fun e _ => evt_d e
section
variable [Wld] {K : PySem.W.Frag} {a : Ad} {m n : Nat} {Γ : Gm} {te ta tb : TE} {t : TS} {tr : TA} {d x y : D} {E : XK} {R : Posts} {P : D → Prop}
theorem e_box0 : DF K (tTup (tCons (tTup tNil) (tCons (tC (.bl false)) (tCons (tTup tNil) (tCons (tC (.str "")) tNil))))) Γ 0 (· = boxD b0) :=
  e_box (b := b0) (e_tup (ds := []) a_nil (by decide)) c_bl (e_tup (ds := []) a_nil (by decide)) c_str
theorem e_box2 {b : LB} {i : Nat} (h : Γ[i]? = some (.val (boxD b))) : DF K (tOp (rIxX K) (tVar i) (tC (.int 2))) Γ 0 (· = walkD b.wk) := e_op ok_ix (f_var h).r c_int.r (ix_tup (i := 2) rfl)
/-! ### _law_shows -/
def N__law_shows : List Str := ["model", "twins", "lane", "walk", "thing", "box", "event"]
def t__law_shows [Wld] (K : PySem.W.Frag) (a : Ad) : TS := (tSeq (tIfS (tNot (tTru K (tCB (rIsiX K) (tCons (tVar 4) (tCons (tTup (tCons (tC (.ty "list")) (tCons (tC (.ty "tuple")) tNil))) tNil))))) (tRet (tC (.bl false))) tNext) (tSeq (tAsg (tTup (tCons (tTup tNil) (tCons (tC (.bl false)) (tCons (tTup tNil) (tCons (tC (.str "")) tNil))))) (gName 5)) (tSeq (tFor (iSeq K (tVar 4)) (gName 6) (tSeq (tAsg (tCall (sp__law_event_done K a) [] E0 (tCons (tVar 0) (tCons (tVar 1) (tCons (tVar 2) (tCons (tVar 5) (tCons (tVar 6) tNil)))))) (gName 5)) (tIfS (tTest (tOp (L2.rIsN) (tVar 5) (tC .non))) (tRet (tC (.bl false))) tNext))) (tRet (tOp (rEqP K) (tOp (rIxX K) (tVar 5) (tC (.int 2))) (tVar 3))))))
def C_law_shows : Ct := fun ds P => ∃ mo x tw l w y es, ds = [moD mo, x, .str l, walkD w, y] ∧ isSeq x = some (tw.map .str) ∧ MoArg mo l ∧ isSeq y = some (es.map Evt.d) ∧ es.length ≤ 900 ∧ P = (· = .bl (lawShows mo.u tw l w es))
abbrev sp__law_shows (K : PySem.W.Frag) (a : Ad) : Sp := spF K 0 C_law_shows
theorem bd__law_shows (T : Tc K a) : ∀ {vs H Q E}, sp__law_shows K a vs H Q E → t__law_shows K a { nx := fun _ H' => Q .non H', rt := Q } (L2.start N__law_shows vs) H := body_F fun ds P m c => by
  obtain ⟨mo, x, tw, l, w, y, es, rfl, hx, ma, hy, hl, rfl⟩ := c
  show DS K _ [.val (moD mo), .val x, .val (.str l), .val (walkD w), .val y, .no, .no] m _
  unfold t__law_shows
  refine s_seq (es_if (b := false) ((e_not (e_truB (isi_LT (f_var rfl).r (seq_pl hy)))).cast (by rw [seq_isLT hy]; rfl)) (fun h => nomatch h) fun _ => s_next ?_)
  refine s_seq (es_set e_box0 ?_)
  refine s_seq (s_for (n := 0) (PL := (· = es.map Evt.d)) (fun ds i Γ m' => m' = m ∧ ∃ b s6, Γ = [.val (moD mo), .val x, .val (.str l), .val (walkD w), .val y, .val (boxD b), s6] ∧ lawAll mo.u tw l b0 (es.take i) = some b ∧ LBLe b i) (i_seq (f_var rfl) hy) (fun ds e => ⟨rfl, b0, .no, rfl, rfl, ⟨Nat.le_refl _, Nat.le_refl _⟩⟩) ?_ ?_)
  · rintro ds i d Γ' m' e hd ⟨rfl, b, s6, rfl, ha, hb⟩
    subst e
    rw [List.getElem?_map] at hd
    cases q : es[i]? with
    | none => rw [q] at hd; cases hd
    | some e =>
      rw [q] at hd; cases hd
      have hil := (List.getElem?_eq_some_iff.mp q).1
      have h1 := hb.d
      have h2 := hb.w
      refine ⟨_, _, g_name, s_seq (es_set (e_call (n := 0) (ea_cons (f_var rfl) (ea_cons (f_var rfl) (ea_cons (f_var rfl) (ea_cons (f_var rfl) (ea_cons (f_var rfl) a_nil))))) ⟨mo, x, tw, l, b, e, rfl, hx, ma, ⟨by omega, by omega⟩, rfl⟩) ?_)⟩
      have hs : lawAll mo.u tw l b0 (es.take (i + 1)) = lawDone mo.u tw l b e := by rw [take_succ q, lawAll_snoc, ha]; rfl
      cases hq : lawDone mo.u tw l b e with
      | none =>
        refine es_if (b := true) (e_test (e_op ok_isN (f_var rfl).r c_non.r rfl)) (fun _ => es_ret c_bl ⟨Nat.le_refl _, ?_⟩) (fun h => nomatch h)
        have : lawAll mo.u tw l b0 es = none := by
          rw [← List.take_append_drop (i + 1) es, lawAll_append, hs, hq]; rfl
        unfold lawShows; rw [this]
      | some b' => exact es_if (b := false) (e_test (e_op ok_isN (f_var rfl).r c_non.r rfl)) (fun h => nomatch h) fun _ => s_next ⟨rfl, b', _, rfl, by rw [hs, hq], lawDone_le hq hb⟩
  · rintro ds Γ' m' e ⟨rfl, b, s6, rfl, ha, hb⟩
    subst e
    rw [List.length_map, List.take_length] at ha
    refine es_ret ((e_op ok_eq (e_box2 (b := b) rfl).r (f_var (d := walkD w) rfl).r (z := .bl (decide (b.wk = w))) (by rw [walkD, walkD, eqF_walk]; rfl))) ⟨Nat.le_refl _, ?_⟩
    unfold lawShows; rw [ha]
/-! ### _law_run -/
def N__law_run : List Str := ["state", "model", "twins", "lane", "most", "box", "events", "lap", "way", "node", "event", "later"]
def t__law_run [Wld] (K : PySem.W.Frag) (a : Ad) : TS := (tSeq (tPar 5 6 (tCons (tTup (tCons (tTup tNil) (tCons (tC (.bl false)) (tCons (tTup tNil) (tCons (tC (.str "")) tNil))))) (tCons (tLst tNil) tNil))) (tSeq (tFor (iRng1 (tCons (tOp (rAddX K) (tC (.int 2)) (tCall (sp__law_draw K a) [] E0 (tCons (tVar 0) (tCons (tVar 4) tNil)))) tNil)) (gName 7) (tSeq (tPar 8 9 (tCons (tCall (sp__law_draw K a) [] E0 (tCons (tVar 0) (tCons (tC (.int 9)) tNil))) (tCons (tCall (sp__law_pick K a) [] E0 (tCons (tVar 0) (tCons (tOp (rIxX K) (tVar 1) (tC (.str "nodes"))) tNil))) tNil))) (tSeq (tAsg (tIf (tTest (tOp (rLtX) (tVar 8) (tC (.int 3)))) (tTup (tCons (tC (.str "switch")) (tCons (tVar 9) tNil))) (tTup (tCons (tC (.str "flip")) tNil))) (gName 10)) (tSeq (tIfS (tAnd (tTest (tOp (rEqP K) (tOp (rIxX K) (tVar 5) (tC (.int 2))) (tTup tNil))) (tTest (tOp (rGtX) (tVar 8) (tC (.int 3))))) (tAsg (tTup (tCons (tC (.str "enter")) (tCons (tVar 9) tNil))) (gName 10)) (tIfS (tAnd (tTest (tOp (rNeP K) (tOp (rIxX K) (tVar 5) (tC (.int 2))) (tTup tNil))) (tAnd (tTest (tOp (rGtX) (tVar 8) (tC (.int 3)))) (tTest (tOp (rInX K) (tOp (rIxX K) (tOp (rIxX K) (tVar 5) (tC (.int 2))) (tUn (rU fun i => .int (-i)) (tC (.int 1)))) (tOp (rIxX K) (tVar 1) (tC (.str "nodes"))))))) (tAsg (tTup (tCons (tC (.str "move")) (tCons (tCall (sp__law_read K a) [] E0 (tCons (tVar 1) (tCons (tVar 2) (tCons (tVar 3) (tCons (tOp (rIxX K) (tOp (rIxX K) (tVar 5) (tC (.int 2))) (tUn (rU fun i => .int (-i)) (tC (.int 1)))) (tCons (tOp (rIxX K) (tVar 5) (tC (.int 0))) (tCons (tOp (rIxX K) (tVar 5) (tC (.int 3))) tNil))))))) tNil))) (gName 10)) tNext)) (tSeq (tAsg (tCall (sp__law_event_done K a) [] E0 (tCons (tVar 1) (tCons (tVar 2) (tCons (tVar 3) (tCons (tVar 5) (tCons (tVar 10) tNil)))))) (gName 11)) (tIfS (tTest (tOp (L2.rNotN) (tVar 11) (tC .non))) (tPar 5 6 (tCons (tVar 11) (tCons (tOp (rAddX K) (tVar 6) (tLst (tCons (tVar 10) tNil))) tNil))) tNext)))))) (tRet (tTup (tCons (tVar 6) (tCons (tOp (rIxX K) (tVar 5) (tC (.int 2))) tNil))))))
def C_law_run : Ct := fun ds P => ∃ mo x tw l, ∃ k : Nat, ds = [.st, moD mo, x, .str l, .int k] ∧ isSeq x = some (tw.map .str) ∧ MoArg mo l ∧ NetOk mo.u.ns mo.u.es ∧ 1 ≤ k ∧ k ≤ 30 ∧ P = fun d => ∃ (es : List Ev) (b : LB), d = .tup [.lst (es.map evD), walkD b.wk] ∧ lawAll mo.u tw l b0 (es.map Ev.t) = some b ∧ LBLe b 31 ∧ es.length ≤ 31
abbrev sp__law_run (K : PySem.W.Frag) (a : Ad) : Sp := spF K 64 C_law_run
def RunInv (mo : Mo) (x : D) (tw : List Str) (l : Str) (k m i : Nat) (Γ : Gm) (m' : Nat) : Prop := m + 2 * (31 - i) ≤ m' ∧ ∃ (b : LB) (es : List Ev) (s7 s8 s9 s10 s11 : Sl), Γ = [.val .st, .val (moD mo), .val x, .val (.str l), .val (.int k), .val (boxD b), .val (.lst (es.map evD)), s7, s8, s9, s10, s11] ∧ lawAll mo.u tw l b0 (es.map Ev.t) = some b ∧ LBLe b i ∧ es.length ≤ i
theorem bd__law_run (T : Tc K a) : ∀ {vs H Q E}, sp__law_run K a vs H Q E → t__law_run K a { nx := fun _ H' => Q .non H', rt := Q } (L2.start N__law_run vs) H := body_F fun ds P m c => by
  obtain ⟨mo, x, tw, l, k, rfl, hx, ma, net, k1, k30, rfl⟩ := c
  show DS K _ [.val .st, .val (moD mo), .val x, .val (.str l), .val (.int k), .no, .no, .no, .no, .no, .no, .no] (m + 63 + 1) _
  unfold t__law_run
  refine s_seq (s_par (n1 := 0) (n2 := 0) e_box0.v (ew_lst a_nil).f.v fun s1 s2 ⟨d1, e1, p1⟩ ⟨d2, e2, p2⟩ => ?_)
  subst e1; subst e2; subst p1; subst p2
  refine s_seq (s_for (n := 1) (PL := fun ds => ∃ j : Nat, j ≤ 31 ∧ ds.length = j) (fun ds i Γ m' => RunInv mo x tw l k m i Γ m') (i_r1 (P := fun d => ∃ j : Nat, j ≤ 31 ∧ d = .int j) (f_op (n1 := 0) (n2 := 1) ok_add c_int.r (e_call (n := 1) (P := fun d => ∃ i : Nat, i < k ∧ d = .int i) (ea_cons (f_var rfl) (ea_cons (f_var rfl) a_nil)) ⟨k, rfl, by omega, by omega, rfl⟩).r fun u v e1 ⟨i, hi, e2⟩ => ⟨.int ((2 + i : Nat) : Int), by rw [e1, e2]; show some (D.int (2 + (i : Int))) = _; rw [Int.natCast_add]; rfl, 2 + i, by omega, rfl⟩) fun d ⟨j, hj, e⟩ => ⟨j, e, by omega, by omega, j, hj, by rw [Int.toNat_natCast, rngD_len]⟩) (fun ds _ => ⟨by omega, b0, [], .no, .no, .no, .no, .no, rfl, rfl, ⟨Nat.le_refl _, Nat.le_refl _⟩, Nat.le_refl _⟩) ?_ ?_)
  · rintro ds i d Γ' m' ⟨j, hj, hlen⟩ hd ⟨hm, b, es, s7, s8, s9, s10, s11, rfl, ha, hb, hes⟩
    have hil := (List.getElem?_eq_some_iff.mp hd).1
    have h1 := hb.d
    have h2 := hb.w
    have n8 := net.n8
    have n1 := net.n1
    refine ⟨_, _, g_name, s_less (m' := m + 2 * (31 - (i + 1)) + 1 + 1) (by omega) (s_seq (s_par (n1 := 1) (n2 := 1) (e_call (n := 1) (P := fun d => ∃ i : Nat, i < 9 ∧ d = .int i) (ea_cons (f_var rfl) (ea_cons c_int a_nil)) ⟨9, rfl, by omega, by omega, rfl⟩).v (e_call (n := 1) (P := (· ∈ mo.u.ns.map D.str)) (ea_cons (f_var rfl) (ea_cons (e_op ok_ix (f_var rfl).r c_str.r (mo_nodes mo)) a_nil)) ⟨strsL mo.u.ns, mo.u.ns.map .str, rfl, rfl, fun e => by rw [List.map_eq_nil_iff.mp e] at n1; exact absurd n1 (by decide), by rw [List.length_map]; omega, rfl⟩).v fun s1 s2 ⟨d1, e1, z, hz, p1⟩ ⟨d2, e2, p2⟩ => ?_))⟩
    obtain ⟨v, hv, p2⟩ := List.mem_map.mp p2
    subst e1; subst e2; subst p1; subst p2
    have hcont : ∀ (ev : Ev) (s11 : Sl) (R : Posts), (∀ Γ m', RunInv mo x tw l k m (i + 1) Γ m' → R.nx Γ m') → DS K (tSeq (tAsg (tCall (sp__law_event_done K a) [] E0 (tCons (tVar 1) (tCons (tVar 2) (tCons (tVar 3) (tCons (tVar 5) (tCons (tVar 10) tNil)))))) (gName 11)) (tIfS (tTest (tOp (L2.rNotN) (tVar 11) (tC .non))) (tPar 5 6 (tCons (tVar 11) (tCons (tOp (rAddX K) (tVar 6) (tLst (tCons (tVar 10) tNil))) tNil))) tNext)) [.val .st, .val (moD mo), .val x, .val (.str l), .val (.int k), .val (boxD b), .val (.lst (es.map evD)), .val d, .val (.int z), .val (.str v), .val (evD ev), s11] (m + 2 * (31 - (i + 1))) R := fun ev s11 R hR => by
      refine s_seq (es_set (e_call (n := 0) (ea_cons (f_var rfl) (ea_cons (f_var rfl) (ea_cons (f_var rfl) (ea_cons (f_var rfl) (ea_cons (f_var rfl) a_nil))))) ⟨mo, x, tw, l, b, Ev.t ev, by rw [evt_d], hx, ma, ⟨by omega, by omega⟩, rfl⟩) ?_)
      cases hq : lawDone mo.u tw l b (Ev.t ev) with
      | none => exact es_if (b := false) (e_test (e_op ok_notN (f_var rfl).r c_non.r rfl)) (fun h => nomatch h) fun _ => s_next (hR _ _ ⟨Nat.le_refl _, b, es, _, _, _, _, _, rfl, ha, ⟨by omega, by omega⟩, by omega⟩)
      | some b' =>
        refine es_if (b := true) (e_test (e_op ok_notN (f_var rfl).r c_non.r rfl)) (fun _ => ?_) (fun h => nomatch h)
        refine s_par (n1 := 0) (n2 := 0) (f_var (d := boxD b') rfl).v (ew_op ok_addL (z := .lst ((es ++ [ev]).map evD)) (f_var (d := .lst (es.map evD)) rfl).r (ew_lst (ea_cons (f_var (d := evD ev) rfl) a_nil) (by show 1 ≤ 1000; omega)).f.r ?_).f.v fun s1 s2 ⟨d1, e1, p1⟩ ⟨d2, e2, p2⟩ => ?_
        · show (if (es.map evD).length + 1 ≤ sizeLine then some (D.lst (es.map evD ++ [evD ev])) else none) = _
          rw [if_pos (by rw [List.length_map, sizeLine_eq]; omega), List.map_append]; rfl
        · subst e1; subst e2; subst p1; subst p2
          exact hR _ _ ⟨Nat.le_refl _, b', es ++ [ev], _, _, _, _, _, rfl, by rw [List.map_append]; show lawAll _ _ _ _ (es.map Ev.t ++ [Ev.t ev]) = _; rw [lawAll_snoc, ha]; exact hq, lawDone_le hq hb, by rw [List.length_append, List.length_singleton]; omega⟩
    refine s_seq (es_set (d := evD (if (z : Int) < 3 then .switch v else .flip)) ((e_if (b := decide ((z : Int) < 3)) (e_test (e_op ok_lt (f_var (d := .int z) rfl).r c_int.r rfl)) (fun _ => e_tup (ea_cons c_str (ea_cons (f_var (d := .str v) rfl) a_nil)) (by show 2 ≤ 1000; omega)) fun _ => e_tup (ea_cons c_str a_nil) (by show 1 ≤ 1000; omega)).cast ?_) ?_)
    · by_cases q : (z : Int) < 3
      · rw [decide_eq_true q, if_pos rfl, if_pos q]; rfl
      · rw [decide_eq_false q, if_neg Bool.false_ne_true, if_neg q]; rfl
    refine s_seq (es_if (b := decide (b.wk = []) && decide ((3 : Int) < z)) (e_and (t_emptyW (e_box2 (b := b) rfl)) fun _ => e_test (e_op ok_gt (f_var (d := .int z) rfl).r c_int.r rfl)) (fun _ => es_set (d := evD (.enter v)) (e_tup (ea_cons c_str (ea_cons (f_var (d := .str v) rfl) a_nil)) (by show 2 ≤ 1000; omega)) (hcont (.enter v) s11 _ fun _ _ h => h)) fun _ => ?_)
    have hlast : ∀ {Γ : Gm}, Γ[5]? = some (.val (boxD b)) → (!decide (b.wk = [])) = true → DF K (tOp (rIxX K) (tOp (rIxX K) (tVar 5) (tC (.int 2))) (tUn (rU fun i => .int (-i)) (tC (.int 1)))) Γ 0 (· = hopD (b.wk.getLast?.getD none)) := fun h q => by
      have hne : ¬ b.wk = [] := by simpa using q
      cases e : b.wk.getLast? with
      | none => exact absurd (List.getLast?_eq_none_iff.mp e) hne
      | some w => exact e_op ok_ix (e_box2 h).r e_neg1.r (ix_last e)
    refine es_if (b := !decide (b.wk = []) && (decide ((3 : Int) < z) && decide (b.wk.getLast?.getD none ∈ mo.u.ns.map some))) (e_and (e_test (e_op ok_ne (e_box2 (b := b) rfl).r (e_tup (ds := []) a_nil (by decide)).r (by show blF (notO (eqF (.tup (b.wk.map hopD)) (.tup (List.map hopD [])))) = _; rw [eqF_walk]; rfl))) fun q => e_and (e_test (e_op ok_gt (f_var (d := .int z) rfl).r c_int.r rfl)) fun _ => e_test (e_op ok_in (hlast rfl q).r (e_op ok_ix (f_var rfl).r c_str.r (mo_nodes mo)).r (by rw [strsL, inF_hs]; rfl))) (fun h => ?_) fun _ => s_next (hcont _ s11 _ fun _ _ h => h)
    rw [Bool.and_eq_true, Bool.and_eq_true] at h
    obtain ⟨q, _, hin⟩ := h
    obtain ⟨s, hs, es'⟩ := List.mem_map.mp (of_decide_eq_true hin)
    refine es_set (d := evD (.move (readW mo.u tw l s b.dn b.st))) (e_tup (ea_cons c_str (ea_cons (e_call (n := 0) (ea_cons (f_var rfl) (ea_cons (f_var rfl) (ea_cons (f_var rfl) (ea_cons (hlast rfl q) (ea_cons (e_op ok_ix (f_var (d := boxD b) rfl).r c_int.r (ix_tup (i := 0) rfl)) (ea_cons (e_op ok_ix (f_var (d := boxD b) rfl).r c_int.r (ix_tup (i := 3) rfl)) a_nil)))))) ⟨mo, x, tw, l, s, b.dn, b.st, by rw [← es']; rfl, hx, ma.fl, ma.o, ma.n, hs, rfl⟩) a_nil)) (by show 2 ≤ 1000; omega)) (hcont (.move _) s11 _ fun _ _ h => h)
  · rintro ds Γ' m' ⟨j, hj, hlen⟩ ⟨hm, b, es, s7, s8, s9, s10, s11, rfl, ha, hb, hes⟩
    exact es_ret (e_tup (ea_cons (f_var rfl) (ea_cons (e_box2 (b := b) rfl) a_nil)) (by show 2 ≤ 1000; omega)) ⟨by omega, es, b, rfl, ha, ⟨by have := hb.d; omega, by have := hb.w; omega⟩, by omega⟩
end
end DL
set_option Elab.async false
set_option linter.all false
set_option maxRecDepth 100000
set_option maxHeartbeats 2000000
/-! Ko: another walk. -/
namespace DL
open PySem L2
section
variable [Wld] {K : PySem.W.Frag} {a : Ad} {m n : Nat} {Γ : Gm} {te ta tb : TE} {t : TS} {tr : TA} {d x y : D} {E : XK} {R : Posts} {P : D → Prop}
theorem isHop_node {ns es : List Str} {s : Str} (h : s ∈ ns) : isHop ns es (hopD (some s)) = true := by
  show (decide (s ∈ ns) || decide (s ∈ es)) = true
  rw [decide_eq_true h]; rfl
theorem isHop_exit {ns es : List Str} {s : Str} (h : s ∈ es) : isHop ns es (hopD (some s)) = true := by
  show (decide (s ∈ ns) || decide (s ∈ es)) = true
  rw [decide_eq_true h, Bool.or_true]
theorem WalkOk.all {ns es : List Str} {w : List (Option Str)} (ok : WalkOk ns es w) : ∀ q ∈ w, isHop ns es (hopD q) = true := by
  intro q hq
  have hne : w ≠ [] := fun e => by rw [e] at hq; cases hq
  rw [← List.dropLast_concat_getLast hne] at hq
  rcases List.mem_append.mp hq with h | h
  · obtain ⟨s, rfl, hs⟩ := ok.mid q h
    exact isHop_node hs
  · rw [List.mem_singleton.mp h]
    exact ok.last _ (List.getLast?_eq_some_getLast hne)
def putW (w : List (Option Str)) (i : Nat) (h : Option Str) : List (Option Str) := w.take i ++ [h] ++ w.drop (i + 1)
theorem WalkOk.put {ns es : List Str} {w : List (Option Str)} {i : Nat} {h : Option Str} (ok : WalkOk ns es w) (i1 : 1 ≤ i) (i2 : i < w.length) (hh : isHop ns es (hopD h) = true) (hm : ∀ q ∈ (putW w i h).dropLast, q ∈ ns.map some) : WalkOk ns es (putW w i h) := by
  have hl : (putW w i h).length = w.length := by
    unfold putW
    rw [List.length_append, List.length_append, List.length_take, List.length_drop, List.length_singleton]; omega
  refine ⟨by rw [hl]; exact ok.le, ?_, fun q hq => ?_, fun q hq => ?_⟩
  · obtain ⟨s, t, e, hs⟩ := ok.first
    obtain ⟨j, rfl⟩ : ∃ j, i = j + 1 := ⟨i - 1, by omega⟩
    refine ⟨s, t.take j ++ [h] ++ w.drop (j + 1 + 1), ?_, hs⟩
    unfold putW
    rw [e]; rfl
  · obtain ⟨s, hs, e⟩ := List.mem_map.mp (hm q hq)
    exact ⟨s, e.symm, hs⟩
  · have hq := List.mem_of_getLast? hq
    unfold putW at hq
    rcases List.mem_append.mp hq with hq | hq
    · rcases List.mem_append.mp hq with hq | hq
      · exact ok.all q (List.mem_of_mem_take hq)
      · rw [List.mem_singleton.mp hq]; exact hh
    · exact ok.all q (List.mem_of_mem_drop hq)
def hopsAll (ns es : List Str) : List (Option Str) := ns.map some ++ es.map some ++ [none]
theorem hopsAll_ok {ns es : List Str} {h : Option Str} (q : h ∈ hopsAll ns es) : isHop ns es (hopD h) = true := by
  unfold hopsAll at q
  rcases List.mem_append.mp q with q | q
  · rcases List.mem_append.mp q with q | q
    · obtain ⟨s, hs, rfl⟩ := List.mem_map.mp q; exact isHop_node hs
    · obtain ⟨s, hs, rfl⟩ := List.mem_map.mp q; exact isHop_exit hs
  · rw [List.mem_singleton.mp q]; rfl
/-! ### _law_other_walk -/
def N__law_other_walk : List Str := ["state", "model", "walk", "at", "hops", "found", "bad", "item"]
def t__law_other_walk [Wld] (K : PySem.W.Frag) (a : Ad) : TS := (tSeq (tIfS (tTest (tOp (rLtX) (tCB (rLenX K) (tCons (tVar 2) tNil)) (tC (.int 2)))) (tRet (tVar 2)) tNext) (tSeq (tPar 3 4 (tCons (tOp (rAddX K) (tC (.int 1)) (tCall (sp__law_draw K a) [] E0 (tCons (tVar 0) (tCons (tOp (rSubI) (tCB (rLenX K) (tCons (tVar 2) tNil)) (tC (.int 1))) tNil)))) (tCons (tOp (rAddX K) (tOp (rAddX K) (tOp (rIxX K) (tVar 1) (tC (.str "nodes"))) (tOp (rIxX K) (tVar 1) (tC (.str "exits")))) (tLst (tCons (tC .non) tNil))) tNil))) (tSeq (tAsg (tOp (rAddX K) (tOp (rAddX K) (tSl (rSlX K) (tVar 2) tNoPart (tPart (tVar 3))) (tTup (tCons (tCall (sp__law_pick K a) [] E0 (tCons (tVar 0) (tCons (tVar 4) tNil))) tNil))) (tSl (rSlX K) (tVar 2) (tPart (tOp (rAddX K) (tVar 3) (tC (.int 1)))) tNoPart)) (gName 5)) (tSeq (tAsg (tLc (iSeq K (tSl (rSlX K) (tVar 5) tNoPart (tPart (tUn (rU fun i => .int (-i)) (tC (.int 1)))))) (gName 7) (tTest (tOp (rNinX K) (tVar 7) (tOp (rIxX K) (tVar 1) (tC (.str "nodes"))))) (tVar 7) [7]) (gName 6)) (tRet (tIf (tTest (tOp (rEqP K) (tVar 6) (tLst tNil))) (tVar 5) (tVar 2)))))))
def C_law_other_walk : Ct := fun ds P => ∃ mo w, ds = [.st, moD mo, walkD w] ∧ NetOk mo.u.ns mo.u.es ∧ WalkOk mo.u.ns mo.u.es w ∧ P = fun d => ∃ w', d = walkD w' ∧ WalkOk mo.u.ns mo.u.es w'
abbrev sp__law_other_walk (K : PySem.W.Frag) (a : Ad) : Sp := spF K 2 C_law_other_walk
theorem bd__law_other_walk (T : Tc K a) : ∀ {vs H Q E}, sp__law_other_walk K a vs H Q E → t__law_other_walk K a { nx := fun _ H' => Q .non H', rt := Q } (L2.start N__law_other_walk vs) H := body_F fun ds P m c => by
  obtain ⟨mo, w, rfl, net, ok, rfl⟩ := c
  show DS K _ [.val .st, .val (moD mo), .val (walkD w), .no, .no, .no, .no, .no] (m + 1 + 1) _
  unfold t__law_other_walk
  have h400 := ok.le
  have hlen : lenF (walkD w) = some (.int w.length) := by show some (D.int ((w.map hopD).length : Nat)) = _; rw [List.length_map]
  refine s_seq (es_if (b := decide ((w.length : Int) < 2)) (e_test (e_op ok_lt (e_cb ok_len (f_var rfl).r hlen).r c_int.r rfl)) (fun _ => es_ret (f_var rfl) ⟨by omega, w, rfl, ok⟩) fun h => s_next ?_)
  have h2 : 2 ≤ w.length := by have := of_decide_eq_false h; omega
  have n8 := net.n8
  have n1 := net.n1
  have e3 := net.e3
  have hsub : subF (.int w.length) (.int 1) = some (.int ((w.length - 1 : Nat) : Int)) := by
    show some (D.int ((w.length : Int) - 1)) = _
    congr 2; omega
  have hops : DF K (tOp (rAddX K) (tOp (rAddX K) (tOp (rIxX K) (tVar 1) (tC (.str "nodes"))) (tOp (rIxX K) (tVar 1) (tC (.str "exits")))) (tLst (tCons (tC .non) tNil))) [.val .st, .val (moD mo), .val (walkD w), .no, .no, .no, .no, .no] 0 (· = .lst ((hopsAll mo.u.ns mo.u.es).map hopD)) := by
    refine (ew_op ok_addL (ew_op ok_addL (z := .lst (mo.u.ns.map .str ++ mo.u.es.map .str)) (e_op ok_ix (f_var rfl).r c_str.r (mo_nodes mo)).r (e_op ok_ix (f_var rfl).r c_str.r (mo_exits mo)).r ?_).f.r (ew_lst (ea_cons c_non a_nil) (by show 1 ≤ 1000; omega)).f.r ?_).f
    · show (if (mo.u.ns.map D.str).length + (mo.u.es.map D.str).length ≤ sizeLine then some (D.lst (mo.u.ns.map D.str ++ mo.u.es.map D.str)) else none) = _
      rw [if_pos (by rw [List.length_map, List.length_map, sizeLine_eq]; omega)]
    · show (if (mo.u.ns.map D.str ++ mo.u.es.map D.str).length + 1 ≤ sizeLine then some (D.lst (mo.u.ns.map D.str ++ mo.u.es.map D.str ++ [.non])) else none) = _
      rw [if_pos (by rw [List.length_append, List.length_map, List.length_map, sizeLine_eq]; omega)]
      unfold hopsAll
      rw [List.map_append, List.map_append, List.map_map, List.map_map]; rfl
  refine s_seq (s_par (n1 := 1) (n2 := 0) (f_op (P := fun d => ∃ i : Nat, 1 ≤ i ∧ i < w.length ∧ d = .int i) (n1 := 0) (n2 := 1) ok_add c_int.r (e_call (n := 1) (P := fun d => ∃ i : Nat, i < w.length - 1 ∧ d = .int i) (ea_cons (f_var rfl) (ea_cons (e_op ok_sub (e_cb ok_len (f_var rfl).r hlen).r c_int.r hsub) a_nil)) ⟨w.length - 1, rfl, by omega, by omega, rfl⟩).r fun u v e1 ⟨i, hi, e2⟩ => ⟨.int ((1 + i : Nat) : Int), by rw [e1, e2]; show some (D.int (1 + (i : Int))) = _; rw [Int.natCast_add]; rfl, 1 + i, by omega, by omega, rfl⟩).v hops.v fun s1 s2 ⟨d1, e1, i, i1, i2, p1⟩ ⟨d2, e2, p2⟩ => ?_)
  subst e1; subst e2; subst p1; subst p2
  have ecast : ((i + 1 : Nat) : Int) = (i : Int) + 1 := Int.natCast_add ..
  refine s_seq (s_set (n := 1) (P := fun d => ∃ h ∈ hopsAll mo.u.ns mo.u.es, d = walkD (putW w i h)) (f_op (n1 := 1) (n2 := 0) (P1 := fun d => ∃ h ∈ hopsAll mo.u.ns mo.u.es, d = walkD (w.take i ++ [h])) (P2 := (· = walkD (w.drop (i + 1)))) ok_add (f_op (n1 := 0) (n2 := 1) (P1 := (· = walkD (w.take i))) (P2 := fun d => ∃ h ∈ hopsAll mo.u.ns mo.u.es, d = walkD [h]) ok_add ((e_sl (xs := w.map hopD) (f_var rfl).r o_none (eo_some (f_var (d := .int i) rfl))).cast (by rw [cut_to, ← List.map_take]; rfl)).r ((f_tup (n := 1) (a_cons (n1 := 1) (n2 := 0) (e_call (n := 1) (P := (· ∈ (hopsAll mo.u.ns mo.u.es).map hopD)) (ea_cons (f_var rfl) (ea_cons (f_var rfl) a_nil)) ⟨.lst ((hopsAll mo.u.ns mo.u.es).map hopD), (hopsAll mo.u.ns mo.u.es).map hopD, rfl, rfl, fun e => by simp [hopsAll] at e, by unfold hopsAll; simp only [List.length_map, List.length_append, List.length_singleton]; omega, rfl⟩) a_nil) (fun ds ⟨_, _, e, _, e2⟩ => by rw [e, e2]; show 1 ≤ 1000; omega)).imp fun d ⟨ds, e, y, _, e1, hy, e2⟩ => by
      obtain ⟨h, hh, e4⟩ := List.mem_map.mp hy
      exact ⟨h, hh, by rw [e, e1, e2, ← e4]; rfl⟩).r fun u v e1 ⟨h, hh, e2⟩ => ⟨walkD (w.take i ++ [h]), ?_, h, hh, rfl⟩).r ((e_sl (xs := w.map hopD) (f_var rfl).r (eo_some (e_op ok_add (f_var (d := .int i) rfl).r c_int.r rfl)) o_none).cast (by rw [← ecast, cut_from (by rw [List.length_map]; omega), ← List.map_drop]; rfl)).r fun u v ⟨h, hh, e1⟩ e2 => ⟨walkD (putW w i h), ?_, h, hh, rfl⟩) fun d ⟨h, hh, e⟩ => ?_)
  · rw [e1, e2]
    show (if ((w.take i).map hopD).length + 1 ≤ sizeLine then some (D.tup ((w.take i).map hopD ++ [hopD h])) else none) = _
    rw [if_pos (by rw [List.length_map, List.length_take, sizeLine_eq]; omega), walkD, List.map_append]; rfl
  · rw [e1, e2]
    show (if ((w.take i ++ [h]).map hopD).length + ((w.drop (i + 1)).map hopD).length ≤ sizeLine then some (D.tup ((w.take i ++ [h]).map hopD ++ (w.drop (i + 1)).map hopD)) else none) = _
    rw [if_pos (by rw [List.length_map, List.length_map, List.length_append, List.length_take, List.length_drop, List.length_singleton, sizeLine_eq]; omega), ← List.map_append]; rfl
  subst e
  generalize hf : putW w i h = f
  have hfl : f.length = w.length := by
    rw [← hf]; unfold putW
    rw [List.length_append, List.length_append, List.length_take, List.length_drop, List.length_singleton]; omega
  refine s_seq (es_set (d := .lst (((f.dropLast.map hopD).filter fun d => !decide (hopO d ∈ mo.u.ns.map some)).map id)) (ew_lc (is := [7]) (i_seq (x := .tup (f.dropLast.map hopD)) ((e_sl (xs := f.map hopD) (f_var rfl).r o_none (eo_some e_neg1)).cast (by rw [cut_last, List.map_dropLast])) rfl) (by rw [List.length_map, List.length_dropLast]; omega) (by simp) fun j d hd => ?_).f ?_)
  · rw [List.getElem?_map] at hd
    cases q : f.dropLast[j]? with
    | none => rw [q] at hd; cases hd
    | some z =>
      rw [q] at hd; cases hd
      exact ⟨_, g_name, (t_inN (w := z) (f_var rfl) rfl).cast (by rw [hopO_hop]), fun _ => f_var rfl⟩
  · rw [List.map_id]
    have hpl : ∀ y ∈ (f.dropLast.map hopD).filter (fun d => !decide (hopO d ∈ mo.u.ns.map some)), y.plain = true := fun y hy => by
      obtain ⟨z, _, rfl⟩ := List.mem_map.mp (List.mem_filter.mp hy).1
      exact plain_flat (flat_hop z)
    refine es_ret ((e_if (b := ((f.dropLast.map hopD).filter fun d => !decide (hopO d ∈ mo.u.ns.map some)).isEmpty) (e_test (e_op ok_eq (f_var rfl).r (ew_lst a_nil).f.r (by rw [eqF_nil hpl]; rfl))) (fun _ => f_var (d := walkD f) rfl) fun _ => f_var (d := walkD w) rfl)) ⟨by omega, ?_⟩
    cases hb : ((f.dropLast.map hopD).filter fun d => !decide (hopO d ∈ mo.u.ns.map some)).isEmpty with
    | false => exact ⟨w, rfl, ok⟩
    | true =>
      refine ⟨f, rfl, ?_⟩
      rw [← hf]
      refine ok.put i1 i2 (hopsAll_ok hh) fun q hq => ?_
      rw [hf] at hq
      rw [List.isEmpty_iff, List.filter_eq_nil_iff] at hb
      have := hb (hopD q) (List.mem_map_of_mem hq)
      rw [hopO_hop] at this
      simpa using this
end
end DL
set_option Elab.async false
set_option linter.all false
set_option maxRecDepth 100000
set_option maxHeartbeats 2000000
/-! Kp: bent runs. -/
namespace DL
open PySem L2
section
variable [Wld] {K : PySem.W.Frag} {a : Ad} {m n n1 n2 : Nat} {Γ : Gm} {te ta tb : TE} {t : TS} {tr : TA} {tl th : TO} {d x y : D} {E : XK} {R : Posts} {P : D → Prop}
theorem od_s {s : Str} (h : DF K te Γ 0 (· = .str s)) : DF K te Γ 0 (· = (Od.str s).d) := h
theorem od_i {i : Int} (h : DF K te Γ 0 (· = .int i)) : DF K te Γ 0 (· = (Od.int i).d) := h
theorem od_b {i : Bool} (h : DF K te Γ 0 (· = .bl i)) : DF K te Γ 0 (· = (Od.bl i).d) := h
theorem od_n (h : DF K te Γ 0 (· = .non)) : DF K te Γ 0 (· = Od.non.d) := h
theorem od_l {s : Str} (h : DF K te Γ 0 (· = .str s)) : DF K (tLst (tCons te tNil)) Γ 0 (· = (Od.ls s).d) := (ew_lst (ea_cons h a_nil) (by show 1 ≤ 1000; omega)).f
theorem ev_o {o : Od} (h : DF K te Γ 0 (· = o.d)) : DF K te Γ 0 (· = (Evt.one o).d) := h
theorem ev_0 : DF K (tTup tNil) Γ 0 (· = (Evt.tup []).d) := e_tup (ds := []) a_nil (by decide)
theorem ev_1 {o : Od} (h : DF K te Γ 0 (· = o.d)) : DF K (tTup (tCons te tNil)) Γ 0 (· = (Evt.tup [o]).d) := e_tup (ea_cons h a_nil) (by show 1 ≤ 1000; omega)
theorem ev_2 {o p : Od} (h : DF K te Γ 0 (· = o.d)) (h2 : DF K ta Γ 0 (· = p.d)) : DF K (tTup (tCons te (tCons ta tNil))) Γ 0 (· = (Evt.tup [o, p]).d) := e_tup (ea_cons h (ea_cons h2 a_nil)) (by show 2 ≤ 1000; omega)
theorem ev_3 {o p q : Od} (h : DF K te Γ 0 (· = o.d)) (h2 : DF K ta Γ 0 (· = p.d)) (h3 : DF K tb Γ 0 (· = q.d)) : DF K (tTup (tCons te (tCons ta (tCons tb tNil)))) Γ 0 (· = (Evt.tup [o, p, q]).d) := e_tup (ea_cons h (ea_cons h2 (ea_cons h3 a_nil))) (by show 3 ≤ 1000; omega)
theorem evs_nil : DA K tNil Γ 0 (· = List.map Evt.d []) := a_nil
theorem evs_cons {e : Evt} {es : List Evt} (h : DF K te Γ 0 (· = e.d)) (hr : DA K tr Γ 0 (· = es.map Evt.d)) : DA K (tCons te tr) Γ 0 (· = (e :: es).map Evt.d) := ea_cons h hr
/-- some events, up to k -/
def EvL (k : Nat) (d : D) : Prop := ∃ es : List Evt, d = .lst (es.map Evt.d) ∧ es.length ≤ k
theorem evl_lst {es : List Evt} {k : Nat} (h : DA K tr Γ 0 (· = es.map Evt.d)) (hk : es.length = k) (h10 : k ≤ 1000) : DF K (tLst tr) Γ 0 (EvL k) :=
  (ew_lst h (by rw [List.length_map]; omega)).f.imp fun d e => ⟨es, e, by omega⟩
theorem evl_sl {k : Nat} {Pl Ph : Option Int → Prop} (h : DF K te Γ n (EvL k)) (hl : DO K tl Γ n1 Pl) (hh : DO K th Γ n2 Ph) : DF K (tSl (rSlX K) te tl th) Γ (n + n1 + n2) (EvL k) :=
  (w_sl h.r hl hh fun x lo hi ⟨es, e, hk⟩ _ _ => ⟨es.map Evt.d, e, (es.drop (HT.sIx es.length 0 lo)).take (HT.sIx es.length es.length hi - HT.sIx es.length 0 lo), by unfold cutD; rw [List.length_map, ← List.map_drop, ← List.map_take], by rw [List.length_take, List.length_drop]; omega⟩).f
theorem evl_add {k j : Nat} (h1 : DF K ta Γ n1 (EvL k)) (h2 : DF K tb Γ n2 (EvL j)) (hk : k + j ≤ 100000) : DF K (tOp (rAddX K) ta tb) Γ (n1 + n2) (EvL (k + j)) :=
  (w_op ok_addL h1.r h2.r fun x y ⟨es, e1, l1⟩ ⟨fs, e2, l2⟩ => ⟨.lst ((es ++ fs).map Evt.d), by
    rw [e1, e2]
    show (if (es.map Evt.d).length + (fs.map Evt.d).length ≤ sizeLine then some (D.lst (es.map Evt.d ++ fs.map Evt.d)) else none) = _
    rw [if_pos (by rw [List.length_map, List.length_map, sizeLine_eq]; omega), List.map_append], es ++ fs, rfl, by rw [List.length_append]; omega⟩).f
theorem evl_rev {k : Nat} (h : DF K te Γ n (EvL k)) : DF K (tRevX K te) Γ n (EvL k) :=
  (w_rev h.r fun x ⟨es, e, hk⟩ => ⟨es.map Evt.d, e, es.reverse, by rw [List.map_reverse], by rw [List.length_reverse]; exact hk⟩).f
/-- some events, one at least -/
def EvN (k : Nat) (d : D) : Prop := ∃ es : List Evt, es ≠ [] ∧ es.length ≤ k ∧ d = .lst (es.map Evt.d)
theorem evn_lst {e : Evt} {es : List Evt} {k : Nat} (h : DA K tr Γ 0 (· = (e :: es).map Evt.d)) (hk : (e :: es).length = k) (h10 : k ≤ 1000) : DF K (tLst tr) Γ 0 (EvN k) :=
  (ew_lst h (by rw [List.length_map]; omega)).f.imp fun d q => ⟨e :: es, List.cons_ne_nil _ _, by omega, q⟩
theorem evn_add {k j : Nat} (h1 : DF K ta Γ n1 (EvL k)) (h2 : DF K tb Γ n2 (EvN j)) (hk : k + j ≤ 100000) : DF K (tOp (rAddX K) ta tb) Γ (n1 + n2) (EvN (k + j)) :=
  (w_op ok_addL h1.r h2.r fun x y ⟨es, e1, l1⟩ ⟨fs, hf, l2, e2⟩ => ⟨.lst ((es ++ fs).map Evt.d), by
    rw [e1, e2]
    show (if (es.map Evt.d).length + (fs.map Evt.d).length ≤ sizeLine then some (D.lst (es.map Evt.d ++ fs.map Evt.d)) else none) = _
    rw [if_pos (by rw [List.length_map, List.length_map, sizeLine_eq]; omega), List.map_append], es ++ fs, fun q => hf (List.append_eq_nil_iff.mp q).2, by rw [List.length_append]; omega, rfl⟩).f
/-! ### _law_bent_run -/
def N__law_bent_run : List Str := ["state", "model", "events", "way", "at", "node", "odd"]
def t__law_bent_run [Wld] (K : PySem.W.Frag) (a : Ad) : TS := (tSeq (tPar3 3 4 5 (tCons (tCall (sp__law_draw K a) [] E0 (tCons (tVar 0) (tCons (tC (.int 6)) tNil))) (tCons (tCall (sp__law_draw K a) [] E0 (tCons (tVar 0) (tCons (tOp (rAddX K) (tCB (rLenX K) (tCons (tVar 2) tNil)) (tC (.int 1))) tNil))) (tCons (tCall (sp__law_pick K a) [] E0 (tCons (tVar 0) (tCons (tOp (rIxX K) (tVar 1) (tC (.str "nodes"))) tNil))) tNil)))) (tSeq (tAsg (tLst (tCons (tTup (tCons (tC (.str "flip")) tNil)) (tCons (tTup (tCons (tC (.str "switch")) (tCons (tVar 5) tNil))) (tCons (tTup (tCons (tC (.str "enter")) (tCons (tVar 5) tNil))) (tCons (tTup (tCons (tC (.str "move")) (tCons (tVar 5) tNil))) (tCons (tTup (tCons (tC (.str "move")) (tCons (tC .non) tNil))) (tCons (tTup (tCons (tC (.str "flip")) (tCons (tVar 5) tNil))) (tCons (tTup (tCons (tC (.str "switch")) tNil)) tNil)))))))) (gName 6)) (tSeq (tAsg (tOp (rAddX K) (tVar 6) (tLst (tCons (tC .non) (tCons (tC (.int 5)) (tCons (tC (.str "flip")) (tCons (tLst (tCons (tC (.str "flip")) tNil)) (tCons (tTup tNil) (tCons (tTup (tCons (tC (.str "go")) (tCons (tVar 5) tNil))) (tCons (tTup (tCons (tC (.str "move")) (tCons (tLst (tCons (tVar 5) tNil)) tNil))) (tCons (tTup (tCons (tC (.str "enter")) (tCons (tC (.int 5)) tNil))) (tCons (tTup (tCons (tC (.int 5)) (tCons (tVar 5) tNil))) (tCons (tTup (tCons (tC (.str "move")) (tCons (tC (.bl true)) tNil))) tNil)))))))))))) (gName 6)) (tSeq (tAsg (tOp (rAddX K) (tVar 6) (tLst (tCons (tTup (tCons (tC (.str "switch")) (tCons (tOp (rIxX K) (tOp (rIxX K) (tVar 1) (tC (.str "exits"))) (tC (.int 0))) tNil))) (tCons (tTup (tCons (tC (.str "switch")) (tCons (tC (.int 5)) tNil))) (tCons (tTup (tCons (tC (.str "switch")) (tCons (tC .non) tNil))) (tCons (tTup (tCons (tC (.str "switch")) (tCons (tC (.str "zzzzzzz")) tNil))) (tCons (tTup (tCons (tC (.str "switch")) (tCons (tLst (tCons (tVar 5) tNil)) tNil))) tNil))))))) (gName 6)) (tSeq (tAsg (tOp (rAddX K) (tVar 6) (tLst (tCons (tTup (tCons (tC (.str "switch")) (tCons (tVar 5) (tCons (tVar 5) tNil)))) (tCons (tTup (tCons (tC (.str "move")) (tCons (tVar 5) (tCons (tVar 5) tNil)))) (tCons (tTup (tCons (tC (.str "enter")) (tCons (tVar 5) (tCons (tC (.int 0)) tNil)))) (tCons (tTup (tCons (tC (.str "flip")) (tCons (tC (.int 0)) (tCons (tC (.int 0)) tNil)))) tNil)))))) (gName 6)) (tSeq (tIfS (tTest (tOp (rEqP K) (tVar 3) (tC (.int 0)))) (tRet (tOp (rAddX K) (tSl (rSlX K) (tVar 2) tNoPart (tPart (tVar 4))) (tSl (rSlX K) (tVar 2) (tPart (tOp (rAddX K) (tVar 4) (tC (.int 1)))) tNoPart))) tNext) (tSeq (tIfS (tTest (tOp (rEqP K) (tVar 3) (tC (.int 1)))) (tRet (tOp (rAddX K) (tOp (rAddX K) (tSl (rSlX K) (tVar 2) tNoPart (tPart (tVar 4))) (tSl (rSlX K) (tVar 2) (tPart (tVar 4)) (tPart (tOp (rAddX K) (tVar 4) (tC (.int 1)))))) (tSl (rSlX K) (tVar 2) (tPart (tVar 4)) tNoPart))) tNext) (tSeq (tIfS (tTest (tOp (rEqP K) (tVar 3) (tC (.int 2)))) (tRet (tOp (rAddX K) (tOp (rAddX K) (tSl (rSlX K) (tVar 2) tNoPart (tPart (tVar 4))) (tRevX K (tSl (rSlX K) (tVar 2) (tPart (tVar 4)) (tPart (tOp (rAddX K) (tVar 4) (tC (.int 2))))))) (tSl (rSlX K) (tVar 2) (tPart (tOp (rAddX K) (tVar 4) (tC (.int 2)))) tNoPart))) tNext) (tRet (tOp (rAddX K) (tOp (rAddX K) (tSl (rSlX K) (tVar 2) tNoPart (tPart (tVar 4))) (tLst (tCons (tCall (sp__law_pick K a) [] E0 (tCons (tVar 0) (tCons (tVar 6) tNil))) tNil))) (tSl (rSlX K) (tVar 2) (tPart (tOp (rAddX K) (tVar 4) (tCB (rIntX) (tCons (tOp (rEqP K) (tVar 3) (tC (.int 3))) tNil)))) tNoPart)))))))))))
def C_law_bent_run : Ct := fun ds P => ∃ mo, ∃ es : List Evt, ds = [.st, moD mo, .lst (es.map Evt.d)] ∧ NetOk mo.u.ns mo.u.es ∧ es.length ≤ 250 ∧ P = EvL (3 * es.length + 1)
abbrev sp__law_bent_run (K : PySem.W.Frag) (a : Ad) : Sp := spF K 4 C_law_bent_run
theorem EvL.mono {k j : Nat} (h : EvL k d) (hk : k ≤ j) : EvL j d := by
  obtain ⟨es, e, l⟩ := h
  exact ⟨es, e, by omega⟩
theorem bd__law_bent_run (T : Tc K a) : ∀ {vs H Q E}, sp__law_bent_run K a vs H Q E → t__law_bent_run K a { nx := fun _ H' => Q .non H', rt := Q } (L2.start N__law_bent_run vs) H := body_F fun ds P m c => by
  obtain ⟨mo, es, rfl, net, hl, rfl⟩ := c
  show DS K _ [.val .st, .val (moD mo), .val (.lst (es.map Evt.d)), .no, .no, .no, .no] (m + 1 + 1 + 1 + 1) _
  unfold t__law_bent_run
  have n8 := net.n8
  have n1 := net.n1
  have e1 := net.e1
  have hlen : lenF (.lst (es.map Evt.d)) = some (.int es.length) := by show some (D.int ((es.map Evt.d).length : Nat)) = _; rw [List.length_map]
  refine s_seq (s_par3 (n1 := 1) (n2 := 1) (n3 := 1) (e_call (n := 1) (P := fun d => ∃ i : Nat, i < 6 ∧ d = .int i) (ea_cons (f_var rfl) (ea_cons c_int a_nil)) ⟨6, rfl, by omega, by omega, rfl⟩).v (e_call (n := 1) (P := fun d => ∃ i : Nat, i < es.length + 1 ∧ d = .int i) (ea_cons (f_var rfl) (ea_cons (e_op ok_add (e_cb ok_len (f_var rfl).r hlen).r c_int.r rfl) a_nil)) ⟨es.length + 1, by rw [Int.natCast_add]; rfl, by omega, by omega, rfl⟩).v (e_call (n := 1) (P := (· ∈ mo.u.ns.map D.str)) (ea_cons (f_var rfl) (ea_cons (e_op ok_ix (f_var rfl).r c_str.r (mo_nodes mo)) a_nil)) ⟨strsL mo.u.ns, mo.u.ns.map .str, rfl, rfl, fun e => by rw [List.map_eq_nil_iff.mp e] at n1; exact absurd n1 (by decide), by rw [List.length_map]; omega, rfl⟩).v fun s1 s2 s3 ⟨d1, q1, z, hz, p1⟩ ⟨d2, q2, i, hi, p2⟩ ⟨d3, q3, p3⟩ => ?_)
  obtain ⟨v, hv, p3⟩ := List.mem_map.mp p3
  subst q1; subst q2; subst q3; subst p1; subst p2; subst p3
  show DS K _ [.val .st, .val (moD mo), .val (.lst (es.map Evt.d)), .val (.int z), .val (.int i), .val (.str v), .no] (m + 1) _
  have hv : ∀ {o : Sl}, DF K (tVar 5) [.val .st, .val (moD mo), .val (.lst (es.map Evt.d)), .val (.int z), .val (.int i), .val (.str v), o] 0 (· = (Od.str v).d) := f_var rfl
  have hs : ∀ {o : Sl} {s : Str}, DF K (tC (.str s)) [.val .st, .val (moD mo), .val (.lst (es.map Evt.d)), .val (.int z), .val (.int i), .val (.str v), o] 0 (· = (Od.str s).d) := c_str
  have hi5 : ∀ {o : Sl} {s : Int}, DF K (tC (.int s)) [.val .st, .val (moD mo), .val (.lst (es.map Evt.d)), .val (.int z), .val (.int i), .val (.str v), o] 0 (· = (Od.int s).d) := c_int
  refine s_seq (s_set (n := 0) (P := EvL 7) (evl_lst (evs_cons (ev_1 hs) (evs_cons (ev_2 hs hv) (evs_cons (ev_2 hs hv) (evs_cons (ev_2 hs hv) (evs_cons (ev_2 hs (od_n c_non)) (evs_cons (ev_2 hs hv) (evs_cons (ev_1 hs) evs_nil))))))) rfl (by omega)) fun d h7 => ?_)
  refine s_seq (s_set (n := 0) (P := EvL 17) (evl_add (n1 := 0) (n2 := 0) (k := 7) (j := 10) ((f_var rfl).imp fun d e => by rw [e]; exact h7) (evl_lst (evs_cons (ev_o (od_n c_non)) (evs_cons (ev_o hi5) (evs_cons (ev_o hs) (evs_cons (ev_o (od_l c_str)) (evs_cons ev_0 (evs_cons (ev_2 hs hv) (evs_cons (ev_2 hs (od_l (f_var (d := .str v) rfl))) (evs_cons (ev_2 hs hi5) (evs_cons (ev_2 hi5 hv) (evs_cons (ev_2 hs (od_b c_bl)) evs_nil)))))))))) rfl (by omega)) (by omega)) fun d h17 => ?_)
  obtain ⟨xs, xr, ex⟩ : ∃ xs xr, mo.u.es = xs :: xr := by
    cases q : mo.u.es with
    | nil => rw [q] at e1; exact absurd e1 (by decide)
    | cons y r => exact ⟨y, r, rfl⟩
  have hx0 : ∀ {o : Sl}, DF K (tOp (rIxX K) (tOp (rIxX K) (tVar 1) (tC (.str "exits"))) (tC (.int 0))) [.val .st, .val (moD mo), .val (.lst (es.map Evt.d)), .val (.int z), .val (.int i), .val (.str v), o] 0 (· = (Od.str xs).d) := e_op ok_ix (e_op ok_ix (f_var rfl).r c_str.r (mo_exits mo)).r c_int.r (by rw [strsL, ex]; exact ix_lst (i := 0) rfl)
  refine s_seq (s_set (n := 0) (P := EvL 22) (evl_add (n1 := 0) (n2 := 0) (k := 17) (j := 5) ((f_var rfl).imp fun d e => by rw [e]; exact h17) (evl_lst (evs_cons (ev_2 hs hx0) (evs_cons (ev_2 hs hi5) (evs_cons (ev_2 hs (od_n c_non)) (evs_cons (ev_2 hs hs) (evs_cons (ev_2 hs (od_l (f_var (d := .str v) rfl))) evs_nil))))) rfl (by omega)) (by omega)) fun d h22 => ?_)
  refine s_seq (s_set (n := 0) (P := EvN 26) (evn_add (n1 := 0) (n2 := 0) (k := 22) (j := 4) ((f_var rfl).imp fun d e => by rw [e]; exact h22) (evn_lst (evs_cons (ev_3 hs hv hv) (evs_cons (ev_3 hs hv hv) (evs_cons (ev_3 hs hv hi5) (evs_cons (ev_3 hs hi5 hi5) evs_nil)))) rfl (by omega)) (by omega)) fun d ⟨os, hos, l26, ed⟩ => ?_)
  subst ed
  have hev : ∀ {o : Sl}, DF K (tVar 2) [.val .st, .val (moD mo), .val (.lst (es.map Evt.d)), .val (.int z), .val (.int i), .val (.str v), o] 0 (EvL es.length) := (f_var rfl).imp fun d e => ⟨es, e, Nat.le_refl _⟩
  have hat : ∀ {o : Sl}, DO K (tPart (tVar 4)) [.val .st, .val (moD mo), .val (.lst (es.map Evt.d)), .val (.int z), .val (.int i), .val (.str v), o] 0 (fun _ => True) := o_some (f_var (d := .int i) rfl) fun d e => ⟨i, e, trivial⟩
  have hatp : ∀ {o : Sl} {j : Int}, DO K (tPart (tOp (rAddX K) (tVar 4) (tC (.int j)))) [.val .st, .val (moD mo), .val (.lst (es.map Evt.d)), .val (.int z), .val (.int i), .val (.str v), o] 0 (fun _ => True) := o_some (e_op ok_add (f_var (d := .int i) rfl).r c_int.r rfl) fun d e => ⟨_, e, trivial⟩
  have hno : ∀ {Γ : Gm}, DO K tNoPart Γ 0 (fun o => o = none) := o_none
  have hz : ∀ {o : Sl} {j : Int}, DT K (tTest (tOp (rEqP K) (tVar 3) (tC (.int j)))) [.val .st, .val (moD mo), .val (.lst (es.map Evt.d)), .val (.int z), .val (.int i), .val (.str v), o] 0 (· = decide ((z : Int) = j)) := e_test (e_op ok_eq (f_var (d := .int z) rfl).r c_int.r (by rw [eqF_int]; rfl))
  refine s_seq (es_if hz (fun _ => s_ret (n := 0) (P := EvL _) (evl_add (n1 := 0) (n2 := 0) (evl_sl (n := 0) (n1 := 0) (n2 := 0) hev hno hat) (evl_sl (n := 0) (n1 := 0) (n2 := 0) hev hatp hno) (by omega)) fun d h => ⟨by omega, h.mono (by omega)⟩) fun _ => s_next ?_)
  refine s_seq (es_if hz (fun _ => s_ret (n := 0) (P := EvL _) (evl_add (n1 := 0) (n2 := 0) (evl_add (n1 := 0) (n2 := 0) (evl_sl (n := 0) (n1 := 0) (n2 := 0) hev hno hat) (evl_sl (n := 0) (n1 := 0) (n2 := 0) hev hat hatp) (by omega)) (evl_sl (n := 0) (n1 := 0) (n2 := 0) hev hat hno) (by omega)) fun d h => ⟨by omega, h.mono (by omega)⟩) fun _ => s_next ?_)
  refine s_seq (es_if hz (fun _ => s_ret (n := 0) (P := EvL _) (evl_add (n1 := 0) (n2 := 0) (evl_add (n1 := 0) (n2 := 0) (evl_sl (n := 0) (n1 := 0) (n2 := 0) hev hno hat) (evl_rev (evl_sl (n := 0) (n1 := 0) (n2 := 0) hev hat hatp)) (by omega)) (evl_sl (n := 0) (n1 := 0) (n2 := 0) hev hatp hno) (by omega)) fun d h => ⟨by omega, h.mono (by omega)⟩) fun _ => s_next ?_)
  refine s_ret (n := 1) (P := EvL _) (evl_add (n1 := 1) (n2 := 0) (evl_add (n1 := 0) (n2 := 1) (k := es.length) (j := 1) (evl_sl (n := 0) (n1 := 0) (n2 := 0) hev hno hat) ((w_lst (n := 1) (a_cons (n1 := 1) (n2 := 0) (e_call (n := 1) (P := (· ∈ os.map Evt.d)) (ea_cons (f_var rfl) (ea_cons (f_var rfl) a_nil)) ⟨.lst (os.map Evt.d), os.map Evt.d, rfl, rfl, fun e => hos (List.map_eq_nil_iff.mp e), by rw [List.length_map]; omega, rfl⟩) a_nil) (fun ds ⟨_, _, e, _, e2⟩ => by rw [e, e2]; show 1 ≤ 1000; omega)).f.imp fun d ⟨ds, e, y, _, e1, hy, e2⟩ => by
      obtain ⟨o, ho, e4⟩ := List.mem_map.mp hy
      exact ⟨[o], by rw [e, e1, e2, ← e4]; rfl, Nat.le_refl _⟩) (by omega)) (evl_sl (n := 0) (n1 := 0) (n2 := 0) (Pl := fun _ => True) hev (o_some (e_op ok_add (f_var (d := .int i) rfl).r (e_cb ok_int (e_op ok_eq (f_var (d := .int z) rfl).r c_int.r (by rw [eqF_int]; rfl)).r rfl).r rfl) fun d e => ⟨_, e, trivial⟩) hno) (by omega)) fun d h => ⟨by omega, h.mono (by omega)⟩
end
end DL
set_option Elab.async false
set_option linter.all false
set_option maxRecDepth 100000
set_option maxHeartbeats 2000000
/-! La: plain laws of doubled runs: a walk of a drawn run has a memory. -/
namespace DL
open PySem L2
variable [Wld]
theorem stepOf_one {ns : List Str} {s : Str} (h : s ∈ ns) : (stepOf [sortS ns] s).isNone = false := by
  unfold stepOf
  have : s ∈ sortS ns := sortS_mem.mpr h
  simp [this]
theorem newHop_one {u : Up} {l s : Str} (h : s ∈ u.ns) : newHop u l [sortS u.ns] s = u.n l s := by
  unfold newHop
  rw [stepOf_one h]; rfl
theorem behind_append {tw : List Str} : ∀ {l r : List (Str × Str)} {q : Mem}, behind tw (l ++ r) q = (behind tw l q).bind fun q' => behind tw r q'
  | [], r, q => rfl
  | p :: l, r, q => by
    show (match stampS tw q p.1 p.2 with | some q' => behind tw (l ++ r) q' | none => none) = (match stampS tw q p.1 p.2 with | some q' => behind tw l q' | none => none).bind _
    cases stampS tw q p.1 p.2 with
    | none => rfl
    | some q' => exact behind_append
theorem pairs_snoc {u : Up} {l : Str} {rows : List (List Str)} (x h : Option Str) : ∀ (w : List (Option Str)), pairsOf u l rows (w ++ [x] ++ [h]) = pairsOf u l rows (w ++ [x]) ++ [(wordAt u l rows x h, nodeOf x)]
  | [] => rfl
  | [y] => rfl
  | y :: z :: w => by
    have ih := pairs_snoc (u := u) (l := l) (rows := rows) x h (z :: w)
    unfold pairsOf at ih ⊢
    simpa using ih
theorem readW_stamp {u : Up} {tw : List Str} {l s st : Str} {dn : List Str} {q : Mem} (hs : s ∈ u.ns) (hst : st = "old" ∨ st = "new") (h1 : q.1 = "" ∨ q.1 = st) (h2 : ∀ x ∈ q.2, x ∈ dn) :
    ∃ q', stampS tw q (wordS (u.o l s) (newHop u l [sortS u.ns] s) (readW u tw l s dn st)) s = some q' ∧ (q'.1 = "" ∨ q'.1 = st) ∧ ∀ x ∈ q'.2, x ∈ dn := by
  rw [newHop_one hs]
  have k1 : ¬ ("old" : Str) = "none" := by decide +kernel
  have k2 : ¬ ("old" : Str) = "same" := by decide +kernel
  have k3 : ¬ ("new" : Str) = "none" := by decide +kernel
  have k4 : ¬ ("new" : Str) = "same" := by decide +kernel
  have k5 : ¬ ("new" : Str) = "old" := by decide +kernel
  by_cases he : u.o l s = u.n l s
  · have hr : readW u tw l s dn st = u.o l s := by
      unfold readW
      rw [← he]
      repeat' split
      all_goals rfl
    refine ⟨q, ?_, h1, h2⟩
    have hw : wordS (u.o l s) (u.n l s) (readW u tw l s dn st) = "same" := by
      unfold wordS
      rw [hr, if_pos rfl, if_pos he]
    rw [hw]
    unfold stampS
    rw [if_pos (.inr rfl), if_pos rfl]
  · have he' : ¬ u.n l s = u.o l s := fun e => he e.symm
    have wo : wordS (u.o l s) (u.n l s) (u.o l s) = "old" := by unfold wordS; rw [if_pos rfl, if_neg he]
    have wn : wordS (u.o l s) (u.n l s) (u.n l s) = "new" := by unfold wordS; rw [if_neg he', if_pos rfl]
    by_cases ht : s ∈ tw
    · rcases hst with rfl | rfl
      · have hr : readW u tw l s dn "old" = u.o l s := by unfold readW; rw [if_pos ht, if_pos rfl]
        rw [hr, wo]
        refine ⟨("old", q.2), ?_, .inr rfl, h2⟩
        unfold stampS
        rw [if_neg (fun h => h.elim k1 k2), if_pos ht, if_pos h1]
      · have hr : readW u tw l s dn "new" = u.n l s := by unfold readW; rw [if_pos ht, if_neg k5]
        rw [hr, wn]
        refine ⟨("new", q.2), ?_, .inr rfl, h2⟩
        unfold stampS
        rw [if_neg (fun h => h.elim k3 k4), if_pos ht, if_pos h1]
    · by_cases hd : s ∈ dn
      · have hr : readW u tw l s dn st = u.n l s := by unfold readW; rw [if_neg ht, if_pos hd]
        rw [hr, wn]
        refine ⟨(q.1, sortS (addS q.2 s)), ?_, h1, fun x hx => ?_⟩
        · unfold stampS
          rw [if_neg (fun h => h.elim k3 k4), if_neg ht, if_neg k5]
        · have hx := sortS_mem.mp hx
          unfold addS at hx
          split at hx
          · exact h2 x hx
          · rcases List.mem_append.mp hx with hx | hx
            · exact h2 x hx
            · rw [List.mem_singleton.mp hx]; exact hd
      · have hr : readW u tw l s dn st = u.o l s := by unfold readW; rw [if_neg ht, if_neg hd]
        rw [hr, wo]
        refine ⟨q, ?_, h1, h2⟩
        unfold stampS
        rw [if_neg (fun h => h.elim k1 k2), if_neg ht, if_pos rfl, if_neg fun h => hd (h2 s h)]
/-- what a drawn run keeps -/
structure RunOk (u : Up) (tw : List Str) (l : Str) (b : LB) : Prop where
  mem : b.wk ≠ [] → ∃ q, memW u tw l b.wk = some q ∧ (q.1 = "" ∨ q.1 = b.st) ∧ ∀ x ∈ q.2, x ∈ b.dn
  st : b.wk ≠ [] → b.st = "old" ∨ b.st = "new"
  first : b.wk ≠ [] → ∃ s t, b.wk = some s :: t ∧ s ∈ u.ns
  mid : ∀ h ∈ b.wk.dropLast, ∃ s, h = some s ∧ s ∈ u.ns
  hop : ∀ h ∈ b.wk, isHop u.ns u.es (hopD h) = true
theorem run_step {u : Up} {tw : List Str} {l : Str} {b b' : LB} {e : Evt} (ho : ∀ s ∈ u.ns, isHop u.ns u.es (hopD (u.o l s)) = true) (hn : ∀ s ∈ u.ns, isHop u.ns u.es (hopD (u.n l s)) = true) (ok : RunOk u tw l b) (h : lawDone u tw l b e = some b') : RunOk u tw l b' := by
  unfold lawDone at h
  split at h
  · split at h
    · split at h
      · cases h
      · cases h; exact ⟨ok.mem, ok.st, ok.first, ok.mid, ok.hop⟩
    · cases h
  · split at h
    · unfold lawMove at h
      split at h
      · rename_i v hp hl hx
        split at h
        · rename_i hv
          split at h
          · rename_i hr
            cases h
            have hne : b.wk ≠ [] := fun e => by rw [e] at hl; cases hl
            obtain ⟨q, hm, h1, h2⟩ := ok.mem hne
            have hw : b.wk = b.wk.dropLast ++ [some v] := by
              have e1 := List.dropLast_concat_getLast hne
              have e2 := List.getLast?_eq_some_getLast hne
              rw [hl] at e2
              rw [Option.some.inj e2]; exact e1.symm
            have hst := ok.st hne
            obtain ⟨q', s1, s2, s3⟩ := readW_stamp (tw := tw) (l := l) hv hst h1 h2
            refine ⟨fun _ => ⟨q', ?_, s2, s3⟩, fun _ => hst, fun _ => ?_, fun h hh => ?_, fun h hh => ?_⟩
            · unfold memW at hm ⊢
              dsimp only
              rw [hw, pairs_snoc, ← hw, behind_snoc, hm]
              show stampS tw q (wordAt u l [sortS u.ns] (some v) hp) (nodeOf (some v)) = _
              rw [← hr]; exact s1
            · obtain ⟨s, t, e, hs⟩ := ok.first hne
              exact ⟨s, t ++ [hp], by dsimp only; rw [e]; rfl, hs⟩
            · dsimp only at hh
              rw [List.dropLast_concat, hw] at hh
              rcases List.mem_append.mp hh with hh | hh
              · exact ok.mid h hh
              · exact ⟨v, List.mem_singleton.mp hh, hv⟩
            · rcases List.mem_append.mp hh with hh | hh
              · exact ok.hop h hh
              · rw [List.mem_singleton.mp hh, ← hr]
                unfold readW
                repeat' split
                all_goals first | exact ho v hv | exact hn v hv
          · cases h
        · cases h
      · cases h
    · split at h
      · unfold lawEnter at h
        split at h
        · rename_i v
          split at h
          · rename_i hv
            split at h
            · cases h
              refine ⟨fun _ => ⟨("", []), rfl, .inl rfl, fun x hx => (nomatch hx)⟩, fun _ => ?_, fun _ => ⟨v, [], rfl, hv⟩, fun h hh => (nomatch hh), fun h hh => ?_⟩
              · dsimp only
                cases b.fp
                · exact .inl rfl
                · exact .inr rfl
              · rw [List.mem_singleton.mp hh]; exact isHop_node hv
            · cases h
          · cases h
        · cases h
      · split at h
        · unfold lawSwitch at h
          split at h
          · rename_i v
            split at h
            · split at h
              · cases h
                exact ⟨fun hne => by
                  obtain ⟨q, a1, a2, a3⟩ := ok.mem hne
                  exact ⟨q, a1, a2, fun x hx => List.mem_append_left _ (a3 x hx)⟩, ok.st, ok.first, ok.mid, ok.hop⟩
              · cases h
            · cases h
          · cases h
        · cases h
  · cases h
theorem run_all {u : Up} {tw : List Str} {l : Str} (ho : ∀ s ∈ u.ns, isHop u.ns u.es (hopD (u.o l s)) = true) (hn : ∀ s ∈ u.ns, isHop u.ns u.es (hopD (u.n l s)) = true) : ∀ {es : List Evt} {b b' : LB}, RunOk u tw l b → lawAll u tw l b es = some b' → RunOk u tw l b'
  | [], b, b', ok, h => by cases h; exact ok
  | e :: es, b, b', ok, h => by
    have h : (lawDone u tw l b e).bind (fun b' => lawAll u tw l b' es) = some b' := h
    cases q : lawDone u tw l b e with
    | none => rw [q] at h; cases h
    | some c => rw [q] at h; exact run_all ho hn (run_step ho hn ok q) h
theorem run_b0 {u : Up} {tw : List Str} {l : Str} : RunOk u tw l b0 := ⟨fun h => absurd rfl h, fun h => absurd rfl h, fun h => absurd rfl h, fun h hh => (nomatch hh), fun h hh => (nomatch hh)⟩
theorem RunOk.walk {u : Up} {tw : List Str} {l : Str} {b : LB} (ok : RunOk u tw l b) (hne : b.wk ≠ []) (hl : b.wk.length ≤ 400) : WalkOk u.ns u.es b.wk :=
  ⟨hl, ok.first hne, ok.mid, fun h q => ok.hop h (List.mem_of_getLast? q)⟩
/-- the beginning of a walk -/
theorem WalkOk.take {ns es : List Str} {w : List (Option Str)} {k : Nat} (ok : WalkOk ns es w) (k1 : 1 ≤ k) : WalkOk ns es (w.take k) := by
  have hall := ok.all
  refine ⟨by rw [List.length_take]; have := ok.le; omega, ?_, fun h hh => ?_, fun h q => hall h (List.mem_of_mem_take (List.mem_of_getLast? q))⟩
  · obtain ⟨s, t, e, hs⟩ := ok.first
    obtain ⟨j, rfl⟩ : ∃ j, k = j + 1 := ⟨k - 1, by omega⟩
    exact ⟨s, t.take j, by rw [e]; rfl, hs⟩
  · refine ok.mid h ?_
    rw [List.dropLast_eq_take] at hh ⊢
    rw [List.take_take, List.length_take] at hh
    have : min (min k w.length - 1) k ≤ w.length - 1 := by omega
    exact (List.take_subset_take_left w this) hh
theorem pairs_take (u : Up) (l : Str) (rows : List (List Str)) : ∀ (w : List (Option Str)) (k : Nat), pairsOf u l rows (w.take (k + 1)) = (pairsOf u l rows w).take k
  | [], k => by simp [pairsOf]
  | [y], k => by simp [pairsOf]
  | y :: z :: w, 0 => rfl
  | y :: z :: w, k + 1 => by
    have ih := pairs_take u l rows (z :: w) k
    unfold pairsOf at ih ⊢
    simpa using ih
theorem mem_take {u : Up} {tw : List Str} {l : Str} {w : List (Option Str)} {k : Nat} (k1 : 1 ≤ k) (h : (memW u tw l w).isSome = true) : (memW u tw l (w.take k)).isSome = true := by
  obtain ⟨j, rfl⟩ : ∃ j, k = j + 1 := ⟨k - 1, by omega⟩
  unfold memW at h ⊢
  rw [pairs_take]
  cases q : behind tw ((pairsOf u l [sortS u.ns] w).take j) ("", []) with
  | some _ => rfl
  | none =>
    have := behind_none tw _ ((pairsOf u l [sortS u.ns] w).drop j) _ q
    rw [List.take_append_drop] at this
    rw [this] at h; cases h
end DL
set_option Elab.async false
set_option linter.all false
set_option maxRecDepth 100000
set_option maxHeartbeats 2000000
/-! Lb: plain laws of doubled runs: what run_with tells is shown by the law's own events. -/
namespace DL
open PySem L2
variable [Wld]
theorem done2 (u : Up) (tw : List Str) (l s : Str) (b : LB) (x : Od) : lawDone u tw l b (.tup [.str s, x]) = if s = "move" then lawMove u tw l b x else if s = "enter" then lawEnter u b x else if s = "switch" then lawSwitch u tw b x else none := rfl
theorem done_move {u : Up} {tw : List Str} {l s : Str} {b : LB} {h : Option Str} (hl : b.wk.getLast? = some (some s)) (hs : s ∈ u.ns) (hr : readW u tw l s b.dn b.st = h) : lawDone u tw l b (Ev.t (.move h)) = some ⟨b.dn, b.fp, b.wk ++ [h], b.st⟩ := by
  show lawDone u tw l b (.tup [.str "move", odOf h]) = _
  rw [done2, if_pos rfl]
  have ho : (odOf h).hop = some h := by cases h <;> rfl
  unfold lawMove
  rw [hl, ho]
  dsimp only
  rw [if_pos hs, if_pos hr]
theorem done_switch {u : Up} {tw : List Str} {l s : Str} {b : LB} (hs : s ∈ u.ns) (h1 : s ∉ b.dn) (h2 : s ∉ tw) : lawDone u tw l b (Ev.t (.switch s)) = some ⟨b.dn ++ [s], b.fp, b.wk, b.st⟩ := by
  show lawDone u tw l b (.tup [.str "switch", .str s]) = _
  rw [done2, if_neg (by decide +kernel), if_neg (by decide +kernel), if_pos rfl]
  show (if s ∈ u.ns then _ else none) = _
  rw [if_pos hs, if_pos ⟨h1, h2⟩]
theorem done_enter {u : Up} {tw : List Str} {l s : Str} {b : LB} (hs : s ∈ u.ns) (hw : b.wk = []) : lawDone u tw l b (Ev.t (.enter s)) = some ⟨b.dn, b.fp, [some s], if b.fp = true then "new" else "old"⟩ := by
  show lawDone u tw l b (.tup [.str "enter", .str s]) = _
  rw [done2, if_neg (by decide +kernel), if_pos rfl]
  show (if s ∈ u.ns then _ else none) = _
  rw [if_pos hs, if_pos hw]
theorem done_flip {u : Up} {tw : List Str} {l : Str} {b : LB} (hf : b.fp = false) : lawDone u tw l b (Ev.t .flip) = some ⟨b.dn, true, b.wk, b.st⟩ := by
  show (if ("flip" : Str) = "flip" then (if b.fp = true then none else _) else none) = _
  rw [if_pos rfl, hf]; rfl
theorem all_snoc {u : Up} {tw : List Str} {l : Str} {es : List Ev} {e : Ev} {b b' : LB} (h : lawAll u tw l b0 (es.map Ev.t) = some b) (h2 : lawDone u tw l b (Ev.t e) = some b') : lawAll u tw l b0 ((es ++ [e]).map Ev.t) = some b' := by
  rw [List.map_append]
  show lawAll _ _ _ _ (es.map Ev.t ++ [Ev.t e]) = _
  rw [lawAll_snoc, h]; exact h2
theorem step_ok {u : Up} {tw : List Str} {l s : Str} {h : Option Str} {b : LB} {q q' : Mem} {es : List Ev} (hs : s ∈ u.ns) (hl : b.wk.getLast? = some (some s)) (hdn : ∀ x, x ∈ b.dn ↔ x ∈ q.2)
    (hq : stampS tw q (wordS (u.o l s) (u.n l s) h) s = some q') (hst : q'.1 = "" ∨ q'.1 = b.st) (ha : lawAll u tw l b0 (es.map Ev.t) = some b) :
    ∃ b', lawAll u tw l b0 ((stepRun tw (es, b.dn) (wordS (u.o l s) (u.n l s) h, s, h)).1.map Ev.t) = some b' ∧ b'.dn = (stepRun tw (es, b.dn) (wordS (u.o l s) (u.n l s) h, s, h)).2 ∧ b'.wk = b.wk ++ [h] ∧ b'.st = b.st ∧ ∀ x, x ∈ b'.dn ↔ x ∈ q'.2 := by
  have k1 : ¬ ("old" : Str) = "none" := by decide +kernel
  have k2 : ¬ ("old" : Str) = "same" := by decide +kernel
  have k3 : ¬ ("new" : Str) = "none" := by decide +kernel
  have k4 : ¬ ("new" : Str) = "same" := by decide +kernel
  have k5 : ¬ ("new" : Str) = "old" := by decide +kernel
  have k6 : ¬ ("none" : Str) = "same" := by decide +kernel
  have k7 : ¬ ("same" : Str) = "new" := by decide +kernel
  have k8 : ¬ ("old" : Str) = "" := by decide +kernel
  have k9 : ¬ ("new" : Str) = "" := by decide +kernel
  have hnone : wordS (u.o l s) (u.n l s) h = "none" → False := fun e => by
    rw [e] at hq
    unfold stampS at hq
    rw [if_pos (.inl rfl), if_neg k6] at hq
    cases hq
  have plain : ¬ wordS (u.o l s) (u.n l s) h = "new" ∨ s ∈ tw ∨ s ∈ b.dn → readW u tw l s b.dn b.st = h → (∀ x, x ∈ b.dn ↔ x ∈ q'.2) → ∃ b', lawAll u tw l b0 ((stepRun tw (es, b.dn) (wordS (u.o l s) (u.n l s) h, s, h)).1.map Ev.t) = some b' ∧ b'.dn = (stepRun tw (es, b.dn) (wordS (u.o l s) (u.n l s) h, s, h)).2 ∧ b'.wk = b.wk ++ [h] ∧ b'.st = b.st ∧ ∀ x, x ∈ b'.dn ↔ x ∈ q'.2 := fun hc hr hd => by
    have e : stepRun tw (es, b.dn) (wordS (u.o l s) (u.n l s) h, s, h) = (es ++ [.move h], b.dn) := by
      unfold stepRun
      rw [if_neg]
      rintro ⟨c1, c2, c3⟩
      rcases hc with hc | hc | hc
      · exact hc c1
      · exact c2 hc
      · exact c3 hc
    rw [e]
    exact ⟨_, all_snoc ha (done_move hl hs hr), rfl, rfl, rfl, hd⟩
  by_cases he : u.o l s = u.n l s
  · have hh : h = u.o l s := by
      apply Classical.byContradiction
      intro c
      refine hnone ?_
      unfold wordS
      rw [if_neg c, if_neg (by rw [← he]; exact c)]
    have hw : wordS (u.o l s) (u.n l s) h = "same" := by unfold wordS; rw [if_pos hh, if_pos (by rw [← he]; exact hh)]
    refine plain (.inl (by rw [hw]; exact k7)) ?_ ?_
    · unfold readW
      rw [← he, hh]
      repeat' split
      all_goals rfl
    · rw [hw] at hq
      unfold stampS at hq
      rw [if_pos (.inr rfl), if_pos rfl] at hq
      cases hq; exact hdn
  · by_cases ho : h = u.o l s
    · have hw : wordS (u.o l s) (u.n l s) h = "old" := by unfold wordS; rw [if_pos ho, if_neg (by rw [ho]; exact he)]
      rw [hw] at hq
      unfold stampS at hq
      rw [if_neg (fun h => h.elim k1 k2)] at hq
      by_cases ht : s ∈ tw
      · rw [if_pos ht] at hq
        split at hq
        · cases hq
          have e : b.st = "old" := by
            rcases hst with h | h
            · exact absurd h k8
            · exact h.symm
          exact plain (.inr (.inl ht)) (by unfold readW; rw [if_pos ht, if_pos e, ho]) hdn
        · cases hq
      · rw [if_neg ht, if_pos rfl] at hq
        split at hq
        · cases hq
        · rename_i hn
          cases hq
          have hn : s ∉ b.dn := fun h => hn ((hdn s).mp h)
          exact plain (.inl (by rw [hw]; exact fun e => k5 e.symm)) (by unfold readW; rw [if_neg ht, if_neg hn, ho]) hdn
    · have hn : h = u.n l s := by
        apply Classical.byContradiction
        intro c
        refine hnone ?_
        unfold wordS
        rw [if_neg ho, if_neg c]
      have hw : wordS (u.o l s) (u.n l s) h = "new" := by unfold wordS; rw [if_neg ho, if_pos hn]
      rw [hw] at hq
      unfold stampS at hq
      rw [if_neg (fun h => h.elim k3 k4)] at hq
      by_cases ht : s ∈ tw
      · rw [if_pos ht] at hq
        split at hq
        · cases hq
          have e : b.st = "new" := by
            rcases hst with h | h
            · exact absurd h k9
            · exact h.symm
          exact plain (.inr (.inl ht)) (by unfold readW; rw [if_pos ht, e, if_neg k5, hn]) hdn
        · cases hq
      · rw [if_neg ht, if_neg k5] at hq
        cases hq
        have hset : ∀ x, x ∈ sortS (addS q.2 s) ↔ x ∈ q.2 ∨ x = s := fun x => by
          rw [sortS_mem]
          unfold addS
          split
          · rename_i hm
            exact ⟨.inl, fun h => h.elim id fun e => e ▸ hm⟩
          · rw [List.mem_append, List.mem_singleton]
        by_cases hd : s ∈ b.dn
        · refine plain (.inr (.inr hd)) (by unfold readW; rw [if_neg ht, if_pos hd, hn]) fun x => ?_
          rw [hset, hdn]
          exact ⟨.inl, fun h => h.elim id fun e => e ▸ (hdn s).mp hd⟩
        · have e : stepRun tw (es, b.dn) (wordS (u.o l s) (u.n l s) h, s, h) = (es ++ [.switch s, .move h], b.dn ++ [s]) := by
            unfold stepRun
            rw [if_pos ⟨hw, ht, hd⟩]
          rw [e]
          have h1 := all_snoc ha (done_switch hs hd ht)
          have h2 := all_snoc h1 (done_move (tw := tw) (l := l) (b := ⟨b.dn ++ [s], b.fp, b.wk, b.st⟩) (h := h) hl hs (by unfold readW; rw [if_neg ht, if_pos (List.mem_append_right _ (List.mem_singleton.mpr rfl)), hn]))
          rw [List.append_assoc] at h2
          refine ⟨_, h2, rfl, rfl, rfl, fun x => ?_⟩
          rw [hset]
          dsimp only
          rw [List.mem_append, List.mem_singleton, hdn]
end DL
set_option Elab.async false
set_option linter.all false
set_option maxRecDepth 100000
set_option maxHeartbeats 2000000
/-! Lc: what run_with tells is shown. -/
namespace DL
open PySem L2
variable [Wld]
def Wordy (s : Str) : Prop := s = "same" ∨ s = "old" ∨ s = "new" ∨ s = "none"
def Stampy (s : Str) : Prop := s = "" ∨ s = "old" ∨ s = "new"
theorem wordy (o n h : Option Str) : Wordy (wordS o n h) := by
  unfold wordS Wordy
  repeat' split
  all_goals simp
theorem wordy_at (u : Up) (l : Str) (rows : List (List Str)) (x h : Option Str) : Wordy (wordAt u l rows x h) := by
  cases x with
  | none => exact .inr (.inr (.inr rfl))
  | some s => exact wordy _ _ _
theorem stamp_keep {tw : List Str} {q q' : Mem} {word s : Str} (hw : Wordy word) (h : stampS tw q word s = some q') : (q.1 = "" ∨ q.1 = q'.1) ∧ (Stampy q.1 → Stampy q'.1) := by
  unfold stampS at h
  split at h
  · split at h
    · cases h; exact ⟨.inr rfl, id⟩
    · cases h
  · rename_i hn
    split at h
    · split at h
      · rename_i hq
        cases h
        refine ⟨hq, fun _ => ?_⟩
        rcases hw with e | e | e | e
        · exact absurd (.inr e) hn
        · exact .inr (.inl e)
        · exact .inr (.inr e)
        · exact absurd (.inl e) hn
      · cases h
    · split at h
      · split at h
        · cases h
        · cases h; exact ⟨.inr rfl, id⟩
      · cases h; exact ⟨.inr rfl, id⟩
theorem behind_keep {tw : List Str} : ∀ {r : List (Str × Str)} {q q' : Mem}, (∀ p ∈ r, Wordy p.1) → behind tw r q = some q' → (q.1 = "" ∨ q.1 = q'.1) ∧ (Stampy q.1 → Stampy q'.1)
  | [], q, q', _, h => by cases h; exact ⟨.inr rfl, id⟩
  | p :: r, q, q', hw, h => by
    have h : (match stampS tw q p.1 p.2 with | some c => behind tw r c | none => none) = some q' := h
    cases e : stampS tw q p.1 p.2 with
    | none => rw [e] at h; cases h
    | some c =>
      rw [e] at h
      have h1 := stamp_keep (hw p (List.mem_cons_self ..)) e
      have h2 := behind_keep (fun p hp => hw p (List.mem_cons_of_mem _ hp)) h
      refine ⟨?_, fun s => h2.2 (h1.2 s)⟩
      rcases h1.1 with a | a
      · exact .inl a
      · rcases h2.1 with b | b
        · exact .inl (by rw [a]; exact b)
        · exact .inr (by rw [a]; exact b)
def st0 (q : Mem) : Str := if q.1 = "new" then "new" else "old"
theorem pre_all {u : Up} {tw : List Str} {l s : Str} {w : List (Option Str)} {q : Mem} (hs : s ∈ u.ns) (hw : w.head? = some (some s)) : ∃ b, lawAll u tw l b0 ((preRun q w).map Ev.t) = some b ∧ b.dn = [] ∧ b.wk = [some s] ∧ b.st = st0 q := by
  unfold preRun
  rw [hw]
  by_cases h : q.1 = "new"
  · rw [if_pos h]
    have h1 : lawAll u tw l b0 (([] ++ [Ev.flip]).map Ev.t) = _ := all_snoc rfl (done_flip (tw := tw) (l := l) rfl)
    have h2 := all_snoc h1 (done_enter (tw := tw) (l := l) hs rfl)
    refine ⟨_, h2, rfl, rfl, ?_⟩
    unfold st0; rw [if_pos h]; rfl
  · rw [if_neg h]
    have h2 : lawAll u tw l b0 (([] ++ [Ev.enter s]).map Ev.t) = _ := all_snoc rfl (done_enter (tw := tw) (l := l) hs rfl)
    refine ⟨_, h2, rfl, rfl, ?_⟩
    unfold st0; rw [if_neg h]; rfl
theorem run_shown {u : Up} {tw : List Str} {l : Str} {w : List (Option Str)} {q : Mem} (ok : AskOk u l tw w) (h : memW u tw l w = some q) :
    lawShows u tw l w (((tripsOf u l [sortS u.ns] w).foldl (stepRun tw) (preRun q w, [])).1.map Ev.t) = true := by
  obtain ⟨s0, t0, ew, hs0⟩ := ok.wk.first
  have hlen : (tripsOf u l [sortS u.ns] w).length = w.length - 1 := by
    unfold tripsOf; rw [List.length_zipWith, List.length_drop]; omega
  have hplen : (pairsOf u l [sortS u.ns] w).length = w.length - 1 := by
    unfold pairsOf; rw [List.length_zipWith, List.length_drop]; omega
  have hge := ok.wk.ge
  have hwd : ∀ p ∈ pairsOf u l [sortS u.ns] w, Wordy p.1 := fun p hp => by
    obtain ⟨i, hi, e⟩ := List.getElem_of_mem hp
    have e2 : (pairsOf u l [sortS u.ns] w)[i]? = some p := by rw [List.getElem?_eq_getElem hi, e]
    unfold pairsOf at e2
    rw [List.getElem?_zipWith] at e2
    cases q1 : w[i]? with
    | none => rw [q1] at e2; cases e2
    | some x =>
      cases q2 : (w.drop 1)[i]? with
      | none => rw [q1, q2] at e2; cases e2
      | some y => rw [q1, q2] at e2; rw [← Option.some.inj e2]; exact wordy_at _ _ _ _ _
  have hsq : Stampy q.1 := (behind_keep hwd h).2 (.inl rfl)
  have key : ∀ i, i ≤ w.length - 1 → ∃ b qi, lawAll u tw l b0 ((((tripsOf u l [sortS u.ns] w).take i).foldl (stepRun tw) (preRun q w, [])).1.map Ev.t) = some b ∧ b.dn = (((tripsOf u l [sortS u.ns] w).take i).foldl (stepRun tw) (preRun q w, [])).2 ∧ b.wk = w.take (i + 1) ∧ b.st = st0 q ∧ behind tw ((pairsOf u l [sortS u.ns] w).take i) ("", []) = some qi ∧ ∀ x, x ∈ b.dn ↔ x ∈ qi.2 := by
    intro i
    induction i with
    | zero =>
      intro _
      obtain ⟨b, h1, h2, h3, h4⟩ := pre_all (u := u) (tw := tw) (l := l) (w := w) (q := q) hs0 (by rw [ew]; rfl)
      exact ⟨b, ("", []), h1, h2, by rw [h3, ew]; rfl, h4, rfl, fun x => by rw [h2]⟩
    | succ i ih =>
      intro hi
      obtain ⟨b, qi, h1, h2, h3, h4, h5, h6⟩ := ih (by omega)
      have g1 : ∃ x, w[i]? = some x := ⟨_, List.getElem?_eq_getElem (by omega)⟩
      have g2 : ∃ y, (w.drop 1)[i]? = some y := ⟨_, List.getElem?_eq_getElem (by rw [List.length_drop]; omega)⟩
      obtain ⟨x, g1⟩ := g1
      obtain ⟨hp, g2⟩ := g2
      obtain ⟨s, rfl, hs⟩ := ok.wk.mid _ (drop_last_get g1 g2)
      have ht : (tripsOf u l [sortS u.ns] w)[i]? = some (wordS (u.o l s) (u.n l s) hp, s, hp) := by
        unfold tripsOf
        rw [zipWith_at g1 g2]
        show some (wordS (u.o l s) (newHop u l [sortS u.ns] s) hp, s, hp) = _
        rw [newHop_one hs]
      have hpr : (pairsOf u l [sortS u.ns] w)[i]? = some (wordS (u.o l s) (u.n l s) hp, s) := by
        unfold pairsOf
        rw [zipWith_at g1 g2]
        show some (wordS (u.o l s) (newHop u l [sortS u.ns] s) hp, s) = _
        rw [newHop_one hs]
      have hall : behind tw ((pairsOf u l [sortS u.ns] w).take (i + 1)) ("", []) = stampS tw qi (wordS (u.o l s) (u.n l s) hp) s := by
        rw [take_succ hpr, behind_snoc, h5]; rfl
      have hrest : (behind tw ((pairsOf u l [sortS u.ns] w).take (i + 1)) ("", [])).bind (fun c => behind tw ((pairsOf u l [sortS u.ns] w).drop (i + 1)) c) = some q := by
        rw [← behind_append, List.take_append_drop]; exact h
      rw [hall] at hrest
      cases hq : stampS tw qi (wordS (u.o l s) (u.n l s) hp) s with
      | none => rw [hq] at hrest; cases hrest
      | some q' =>
        rw [hq] at hrest
        have hk := behind_keep (fun p hp => hwd p (List.mem_of_mem_drop hp)) hrest
        have hst : q'.1 = "" ∨ q'.1 = b.st := by
          rcases hk.1 with a | a
          · exact .inl a
          · rw [h4]
            unfold st0
            rcases hsq with c | c | c
            · exact .inl (by rw [a]; exact c)
            · rw [if_neg (by rw [c]; decide +kernel)]; exact .inr (by rw [a]; exact c)
            · rw [if_pos c]; exact .inr (by rw [a]; exact c)
        have hlast : b.wk.getLast? = some (some s) := by
          rw [h3, take_succ g1, List.getLast?_concat]
        have hx := step_ok (tw := tw) (l := l) (h := hp) (es := (((tripsOf u l [sortS u.ns] w).take i).foldl (stepRun tw) (preRun q w, [])).1) hs hlast h6 hq hst h1
        have hf : ((tripsOf u l [sortS u.ns] w).take (i + 1)).foldl (stepRun tw) (preRun q w, []) = stepRun tw ((((tripsOf u l [sortS u.ns] w).take i).foldl (stepRun tw) (preRun q w, [])).1, b.dn) (wordS (u.o l s) (u.n l s) hp, s, hp) := by
          rw [take_succ ht, List.foldl_append, h2]; rfl
        rw [hf]
        obtain ⟨b', a1, a2, a3, a4, a5⟩ := hx
        refine ⟨b', q', a1, a2, ?_, by rw [a4]; exact h4, by rw [hall]; exact hq, a5⟩
        have g3 : w[i + 1]? = some hp := by rw [List.getElem?_drop, Nat.add_comm] at g2; exact g2
        rw [a3, h3, take_succ g3]
  obtain ⟨b, qi, h1, h2, h3, _⟩ := key (w.length - 1) (Nat.le_refl _)
  rw [List.take_of_length_le (by omega)] at h1
  unfold lawShows
  rw [h1]
  dsimp only
  rw [h3, Nat.sub_add_cancel hge, List.take_length]
  exact decide_eq_true rfl
theorem runW_shown {u : Up} {tw : List Str} {l : Str} {w : List (Option Str)} {es : List Ev} (ok : AskOk u l tw w) (h : runW u tw l w = some es) : lawShows u tw l w (es.map Ev.t) = true := by
  unfold runW at h
  cases q : memW u tw l w with
  | none => rw [q] at h; cases h
  | some m =>
    rw [q] at h
    rw [← Option.some.inj h]
    exact run_shown ok q
section
variable [Wld]
theorem mem_sort (u : Up) (tw : List Str) (l : Str) (w : List (Option Str)) : memW u.sort tw l w = memW u tw l w := rfl
theorem ask_of {mo : Mo} {l : Str} {tw : List Str} {w : List (Option Str)} (ok : MoOk mo) (hl : l ∈ mo.u.fl) (ht : TwOk mo.u.ns tw) (hw : WalkOk mo.u.ns mo.u.es w) : AskOk mo.u.sort l tw w :=
  ⟨ok.net, sortS_mem.mpr hl, ht, hw⟩
theorem MoOk.arg {mo : Mo} {l : Str} (ok : MoOk mo) (hl : l ∈ mo.u.fl) : MoArg mo l := ⟨hl, ok.o l hl, ok.n l hl⟩
end
end DL
set_option Elab.async false
set_option linter.all false
set_option maxRecDepth 100000
set_option maxHeartbeats 2000000
/-! DL, part v: the outer loop of the laws. -/
namespace DL
open PySem L2
section
variable [Wld] {K : PySem.W.Frag} {m n : Nat} {Γ : Gm} {te ta tb : TE} {t t2 : TS} {tr : TA} {d x y : D} {E : XK} {R : Posts} {P : D → Prop}
theorem s_mid (Mid : Gm → Nat → Prop) (h : DS K t Γ m { R with nx := Mid }) (k : ∀ Γ' m', Mid Γ' m' → DS K t2 Γ' m' R) : DS K (tSeq t t2) Γ m R :=
  s_seq (h.imp (fun Γ' m' q => k Γ' m' q) (fun _ _ q => q) (fun _ _ q => q) (fun _ _ q => q) (fun _ _ q => q))
def bare : Kn := fun _ => none
theorem bare_le {m : Nat} {H : Hp} : Le m bare H := fun _ _ e => (nomatch e)
theorem SqL.upd {H : Hp} {p q : Addr} {xs : List V} {o : HO} (h : SqL K H p xs) (hq : H q = none) : SqL K (upd H q o) p xs := by
  rcases h with (h | ⟨ob, h⟩) | h
  · exact .inl (.inl (by rw [upd_ne fun e => by rw [e, hq] at h; cases h]; exact h))
  · exact .inl (.inr ⟨ob, by rw [upd_ne fun e => by rw [e, hq] at h; cases h]; exact h⟩)
  · exact .inr h
theorem isL_ints {B : Kn} : ∀ l : List Int, IsL K B (l.map .int) (l.map .int)
  | [] => .nil
  | i :: l => .cons (.int i) (isL_ints l)
/-- the first numbers of the script, or five -/
theorem cells_raw {H : Hp} {σ : L2.St} {p : Addr} {ns : List Int} {k : Nat} (hσ : σ[0]? = some (some (.ref p))) (h : SqL K H p (ns.map .int)) {Q : VK} (hQ : ∀ v B' H' (cs : List Int), Go bare H B' H' → Le 100000 B' H' → Is K B' v (.lst (cs.map .int)) → cs.length ≤ k → Q v H') :
    tSl (rSlX K) (tOrT K (tVar 0) (tLst (tCons (tC (.int 5)) tNil))) tNoPart (tPart (tC (.int k))) σ H Q := by
  have fin : ∀ (H1 : Hp) (q : Addr) (cs : List Int), Go bare H bare H1 → SqL K H1 q (cs.map .int) → rSlX K (.ref q) none (some (k : Int)) H1 Q := fun H1 q cs g hs => by
    refine .inl ⟨q, _, rfl, hs, fun r hr => ?_⟩
    obtain ⟨g2, le2, ho⟩ := new_lst (K := K) (m := 100000) bare_le hr ((isL_ints (K := K) (B := bare) cs).cut none (some (k : Int)))
    obtain ⟨o, ea, le3, gw, hi⟩ := ho.froze le2
    rw [cut_to, ← List.map_take] at hi
    exact hQ _ _ _ (cs.take k) (frz_go rfl (new_of (m := 0) g bare_le hr) (g.trans g2)) le3 hi (by rw [List.length_take]; omega)
  refine ⟨.ref p, hσ, !(ns.map V.int).isEmpty, .inl ⟨_, h, rfl⟩, ?_⟩
  cases hb : (!(ns.map V.int).isEmpty) with
  | true => exact iteT ⟨(k : Int), rfl, fin H p ns (Go.refl _ _) h⟩
  | false =>
    refine iteF ⟨by rw [sizeLine_eq]; show 1 ≤ 16777216; decide, fun r hr => ⟨(k : Int), rfl, fin _ r [5] ?_ (.inl (.inl upd_same))⟩⟩
    exact (go_new (m := 0) bare_le hr).1
/-- a loop whose walk is known -/
theorem for_raw {wi : TI} {g : TG} {B0 : Kn} {H0 : Hp} {B : Kn} {H : Hp} {σ : L2.St} {En : Ends} {PL : List D → Prop} (Inv : List D → Nat → Gm → Nat → Prop) (at0 : At K B0 H0 m B H σ Γ) (ok : EOk K B0 H0 En R)
    (hi : ∀ Q : It → Hp → Prop, (∀ J B' H' ds, Go B H B' H' → Le m B' H' → WalkD K J B' H' ds → PL ds → Q J H') → wi σ H Q) (h0 : ∀ ds, PL ds → Inv ds 0 Γ m)
    (hs : ∀ (ds : List D) (i : Nat) (d : D) (Γ' : Gm) (m' : Nat), PL ds → ds[i]? = some d → Inv ds i Γ' m' → ∃ is Γ2, DG K g is d Γ' Γ2 ∧ DS K t Γ2 m' { R with nx := Inv ds (i + 1), ct := Inv ds (i + 1), bk := R.nx })
    (hd : ∀ (ds : List D) (Γ' : Gm) (m' : Nat), PL ds → Inv ds ds.length Γ' m' → R.nx Γ' m') : tFor wi g t En σ H := by
  refine hi _ fun J B1 H1 ds g1 le1 wk pl => ?_
  have a1 := at0.step g1 le1
  obtain ⟨a2, gz⟩ := a1.rebase
  have gzz : ∀ {B2 H2}, Go B1 (sans H1 σ Γ) B2 H2 → Gz B1 H1 B2 H2 := fun g => ⟨fun b f q => g.b b f q, fun b o u q => g.z b o u (gz.z b o u q)⟩
  refine ⟨fun i mm σx Hx => mm = ds.length - i ∧ i ≤ ds.length ∧ ∃ Bx Γx mx, At K B1 (sans H1 σ Γ) mx Bx Hx σx Γx ∧ Inv ds i Γx mx, ⟨ds.length, rfl, Nat.zero_le _, B1, Γ, m, a2, h0 ds pl⟩, ?_⟩
  rintro i mm σx Hx ⟨rfl, hil, Bx, Γx, mx, ax, inv⟩
  by_cases hlt : i < ds.length
  · refine .inr ⟨wk.go mx Bx Hx i (gzz ax.go) ax.le hlt, fun σn Hn => ∃ Bn Γn mn, At K B1 (sans H1 σ Γ) mn Bn Hn σn Γn ∧ Inv ds (i + 1) Γn mn, fun σ' H' q => ⟨ds.length - (i + 1), by omega, rfl, by omega, q⟩, fun x H' hy => ?_⟩
    obtain ⟨B2, d, hd2, g2, le2, hi3⟩ := wk.yld mx Bx Hx i x H' (gzz ax.go) ax.le hlt hy
    obtain ⟨is, Γ2, dg, ds2⟩ := hs ds i d Γx mx pl hd2 inv
    refine dg B1 (sans H1 σ Γ) mx B2 H' σx x (ax.step g2 le2) hi3 _ fun σ' a' _ _ => ?_
    have oki := ok.inner a1
    exact ds2 B1 (sans H1 σ Γ) B2 H' σ' _ a' ⟨fun m B H σ Γ a r => ⟨B, Γ, m, a, r⟩, fun m B H σ Γ a r => oki.nx m B H σ Γ a r, fun m B H σ Γ a r => ⟨B, Γ, m, a, r⟩, oki.rt, oki.rw⟩
  · have e : i = ds.length := by omega
    subst e
    exact .inl ⟨wk.stop mx Bx Hx (gzz ax.go) ax.le, ok.nx mx Bx Hx σx Γx (a1.outer ax) (hd ds Γx mx pl inv)⟩
def noG (n : Nat) : Gm := List.replicate n .no
theorem no_sg {B : Kn} {H : Hp} {σ : L2.St} {n : Nat} (h : σ.length = n) : Sg K B H σ (noG n) := by
  have no : ∀ {i : Nat} {s : Sl}, (noG n)[i]? = some s → s = .no := fun h => (List.mem_replicate.mp (List.mem_of_getElem? h)).2
  exact ⟨by unfold noG; rw [List.length_replicate]; exact h, fun i d e => (nomatch no e), fun i d p e => (nomatch no e), fun i j a d e p q h => (nomatch no h)⟩
/-- for k, cell in enumerate((script or [5])[:c]): .. -/
theorem law_cells {g : TG} {body : TS} {N : List Str} {c : Nat} {p : Addr} {ns : List Int} {H : Hp} {Q : VK} (hp : SqL K H p (ns.map .int)) (hN : 1 ≤ N.length)
    (step : Nat → Nat) (Inv : Gm → Prop) (h0 : Inv (noG N.length)) (hc : c ≤ 1000) (hst : ∀ i, i ≤ c → step i ≤ 100000)
    (hs : ∀ (i : Nat) (cell : Int) (Γ' : Gm), i < c → Inv Γ' → ∃ is Γ2, DG K g is (.tup [.int (i : Nat), .int cell]) Γ' Γ2 ∧ DS K body Γ2 (step i) { nx := fun Γ m => step (i + 1) ≤ m ∧ Inv Γ, ct := fun Γ m => step (i + 1) ≤ m ∧ Inv Γ, rt := fun d _ => d = .bl true })
    (hQ : ∀ H', Q (.bl true) H') : tSeq (tFor (iEnumS K (tCons (tSl (rSlX K) (tOrT K (tVar 0) (tLst (tCons (tC (.int 5)) tNil))) tNoPart (tPart (tC (.int c)))) tNil)) g body) (tRet (tC (.bl true))) { nx := fun _ H' => Q .non H', rt := Q } (L2.start N [.ref p]) H := by
  have hlen : (L2.start N [.ref p]).length = N.length := by
    unfold L2.start
    rw [List.length_append, List.length_map, List.length_replicate]
    show 1 + (N.length - 1) = _
    omega
  refine for_raw (K := K) (m := step 0) (Γ := noG N.length) (B0 := bare) (H0 := H) (B := bare) (PL := fun ds => ∃ cs : List Int, cs.length ≤ c ∧ ds = enumD (cs.map .int)) (R := { nx := fun _ _ => True, rt := fun d _ => d = .bl true }) (fun ds i Γ m => step i ≤ m ∧ Inv Γ)
    ⟨Go.refl _ _, bare_le, no_sg hlen, fun i d q b e => ?_⟩ ⟨fun m B H σ Γ a r => hQ H, fun _ _ _ _ _ _ f => f.elim, fun _ _ _ _ _ _ f => f.elim, fun m B H v d g le hi e => ?_, fun _ _ _ _ _ _ _ _ _ f => f.elim⟩ (fun R k => ?_) (fun ds _ => ⟨Nat.le_refl _, h0⟩) ?_ (fun _ _ _ _ _ => trivial)
  · exact (nomatch (List.mem_replicate.mp (List.mem_of_getElem? e)).2)
  · subst e; cases hi; exact hQ H
  · refine cells_raw (k := c) (by unfold L2.start; rfl) hp fun v B' H' cs g le hi hl => ?_
    obtain ⟨v', e, h⟩ := i_enum (K := K) (Γ := [.val (.lst (cs.map .int))]) (te := tVar 0) (n := 0) (f_var rfl) rfl (step 0) B' H' [some v] (le.mono (hst 0 (Nat.zero_le _))) (start_sg (N := ["x"]) (.one hi)) R fun J B2 H2 ds g2 le2 wk e => k J B2 H2 ds (g.trans g2) le2 wk ⟨cs, hl, e⟩
    cases e
    exact h
  · rintro ds i d Γ' m' ⟨cs, hl, rfl⟩ hd ⟨hm, inv⟩
    obtain ⟨y, hy, rfl⟩ := enum_at hd
    rw [List.getElem?_map] at hy
    cases q : cs[i]? with
    | none => rw [q] at hy; cases hy
    | some cell =>
      rw [q] at hy; cases hy
      have hil := (List.getElem?_eq_some_iff.mp q).1
      obtain ⟨is, Γ2, dg, h⟩ := hs i cell Γ' (by omega) inv
      exact ⟨is, Γ2, dg, s_less hm (h.imp (fun _ _ h => h) (fun _ _ h => h) (fun _ _ h => h) (fun _ _ h => h.elim) fun _ _ h => h)⟩
theorem list_form {α : Type} : ∀ {n : Nat} (l : List α), l.length = n + 1 → ∃ x r, l = x :: r ∧ r.length = n
  | _, x :: r, h => ⟨x, r, rfl, Nat.succ.inj h⟩
end
end DL
set_option Elab.async false
set_option linter.all false
set_option maxRecDepth 100000
set_option maxHeartbeats 2000000
/-! Ma: walks shown by all doubled runs: the law's own search, and memory. -/
namespace DL
open PySem L2
variable [Wld]
/-! ### lists -/
theorem nodup_len {α : Type} [DecidableEq α] : ∀ {l c : List α}, l.Nodup → (∀ x ∈ l, x ∈ c) → l.length ≤ c.length
  | [], _, _, _ => Nat.zero_le _
  | x :: t, c, nd, h => by
    have hx := h x (List.mem_cons_self ..)
    have h1 := nodup_len (c := c.erase x) (List.nodup_cons.mp nd).2 fun s hs => (List.mem_erase_of_ne fun e => (List.nodup_cons.mp nd).1 (by rw [← e]; exact hs)).mpr (h s (List.mem_cons_of_mem _ hs))
    rw [List.length_erase_of_mem hx] at h1
    have h2 := List.length_pos_of_mem hx
    rw [List.length_cons]; omega
def subsL : List Str → List (List Str)
  | [] => [[]]
  | s :: r => subsL r ++ (subsL r).map (s :: ·)
theorem subsL_len : ∀ l : List Str, (subsL l).length = 2 ^ l.length
  | [] => rfl
  | s :: r => by
    unfold subsL
    rw [List.length_append, List.length_map, subsL_len r, List.length_cons, Nat.pow_succ]; omega
theorem subsL_filter (p : Str → Bool) : ∀ l : List Str, l.filter p ∈ subsL l
  | [] => List.mem_singleton.mpr rfl
  | s :: r => by
    have h := subsL_filter p r
    unfold subsL
    rw [List.filter_cons]
    split
    · exact List.mem_append_right _ (List.mem_map.mpr ⟨_, h, rfl⟩)
    · exact List.mem_append_left _ h
theorem sortS_sortS (l : List Str) : sortS (sortS l) = sortS l := sortS_of_perm (sortS_perm l)
theorem perm_ext {l l' : List Str} (h1 : l.Nodup) (h2 : l'.Nodup) (h : ∀ x, x ∈ l ↔ x ∈ l') : l.Perm l' := (List.perm_ext_iff_of_nodup h1 h2).mpr h
/-! ### sets that grow -/
def growStep (tw dn : List Str) (acc : List (List Str)) (s : Str) : List (List Str) := if s ∈ tw ∨ s ∈ dn then acc else acc ++ acc.map fun p => sortS (p ++ [s])
def grownS (tw ns dn : List Str) : List (List Str) := ns.foldl (growStep tw dn) [dn]
structure GrOk (dn some p : List Str) : Prop where
  nd : p.Nodup
  sub : ∀ x ∈ p, x ∈ dn ∨ x ∈ some
  sup : ∀ x ∈ dn, x ∈ p
  so : sortS dn = dn → sortS p = p
theorem grow_ok {tw dn : List Str} (hd : dn.Nodup) : ∀ {ns done : List Str} {acc : List (List Str)}, (done ++ ns).Nodup → (∀ p ∈ acc, GrOk dn done p) → ∀ p ∈ ns.foldl (growStep tw dn) acc, GrOk dn (done ++ ns) p
  | [], done, acc, _, h, p, hp => by rw [List.append_nil]; exact h p hp
  | s :: ns, done, acc, nd, h, p, hp => by
    have e : done ++ s :: ns = (done ++ [s]) ++ ns := by rw [List.append_assoc]; rfl
    rw [e] at nd ⊢
    have hs : s ∉ done := fun hm => by
      have := (List.nodup_append.mp (List.nodup_append.mp nd).1).2.2 s hm s (List.mem_singleton.mpr rfl)
      exact this rfl
    refine grow_ok hd nd (fun q hq => ?_) p hp
    have up : ∀ q, GrOk dn done q → GrOk dn (done ++ [s]) q := fun q g => ⟨g.nd, fun x hx => (g.sub x hx).imp id fun h => List.mem_append_left _ h, g.sup, g.so⟩
    unfold growStep at hq
    split at hq
    · exact up q (h q hq)
    · rename_i hno
      rcases List.mem_append.mp hq with hq | hq
      · exact up q (h q hq)
      · obtain ⟨r, hr, rfl⟩ := List.mem_map.mp hq
        have g := h r hr
        have hsr : s ∉ r := fun hm => (g.sub s hm).elim (fun h => hno (.inr h)) hs
        refine ⟨(sortS_perm _).nodup_iff.mpr ?_, fun x hx => ?_, fun x hx => ?_, fun _ => sortS_sortS _⟩
        · rw [List.nodup_append]
          exact ⟨g.nd, by simp, fun x hx y hy e => hsr (by rw [List.mem_singleton.mp hy] at e; rw [← e]; exact hx)⟩
        · rcases List.mem_append.mp (sortS_mem.mp hx) with hx | hx
          · exact (g.sub x hx).imp id fun h => List.mem_append_left _ h
          · exact .inr (List.mem_append_right _ hx)
        · exact sortS_mem.mpr (List.mem_append_left _ (g.sup x hx))
theorem grownS_ok {tw ns dn p : List Str} (hd : dn.Nodup) (hn : ns.Nodup) (h : p ∈ grownS tw ns dn) : GrOk dn ns p :=
  grow_ok (done := []) hd hn (fun q hq => by rw [List.mem_singleton.mp hq]; exact ⟨hd, fun x hx => .inl hx, fun x hx => hx, id⟩) p h
theorem grow_keep {tw dn : List Str} : ∀ {ns : List Str} {acc : List (List Str)} {p : List Str}, p ∈ acc → p ∈ ns.foldl (growStep tw dn) acc
  | [], _, _, h => h
  | s :: ns, acc, p, h => by
    refine grow_keep (ns := ns) ?_
    unfold growStep
    split
    · exact h
    · exact List.mem_append_left _ h
theorem grownS_self {tw ns dn : List Str} : dn ∈ grownS tw ns dn := grow_keep (List.mem_singleton.mpr rfl)
theorem grow_add {tw dn : List Str} {s : Str} (h1 : s ∉ tw) (h2 : s ∉ dn) : ∀ {ns : List Str} {acc : List (List Str)} {p : List Str}, s ∈ ns → p ∈ acc → sortS (p ++ [s]) ∈ ns.foldl (growStep tw dn) acc
  | r :: ns, acc, p, hs, hp => by
    rcases List.mem_cons.mp hs with e | hs
    · subst e
      refine grow_keep (ns := ns) ?_
      unfold growStep
      rw [if_neg fun h => h.elim h1 h2]
      exact List.mem_append_right _ (List.mem_map.mpr ⟨p, hp, rfl⟩)
    · refine grow_add h1 h2 (ns := ns) hs ?_
      unfold growStep
      split
      · exact hp
      · exact List.mem_append_left _ hp
theorem grownS_add {tw ns dn : List Str} {s : Str} (hs : s ∈ ns) (h1 : s ∉ tw) (h2 : s ∉ dn) : sortS (dn ++ [s]) ∈ grownS tw ns dn := grow_add h1 h2 hs (List.mem_singleton.mpr rfl)
theorem grow_len (tw dn : List Str) : ∀ (ns : List Str) (acc : List (List Str)), (ns.foldl (growStep tw dn) acc).length ≤ acc.length * 2 ^ ns.length
  | [], acc => by show acc.length ≤ acc.length * 1; omega
  | s :: ns, acc => by
    have h := grow_len tw dn ns (growStep tw dn acc s)
    have h1 : (growStep tw dn acc s).length ≤ acc.length * 2 := by
      unfold growStep
      split
      · omega
      · rw [List.length_append, List.length_map]; omega
    have h2 := Nat.mul_le_mul_right (2 ^ ns.length) h1
    rw [List.length_cons, Nat.pow_succ, Nat.mul_comm (2 ^ ns.length) 2, ← Nat.mul_assoc]
    exact Nat.le_trans h h2
theorem grownS_len (tw ns dn : List Str) : (grownS tw ns dn).length ≤ 2 ^ ns.length := by
  have := grow_len tw dn ns [dn]
  rw [List.length_singleton, Nat.one_mul] at this
  exact this
/-! ### runs -/
abbrev Spot := List (Option Str) × List Str × Str
/-- reached behind so many moves -/
def RS (u : Up) (tw : List Str) (l : Str) : Nat → Spot → Prop
  | 0, e => ∃ s ∈ u.ns, ∃ st : Str, (st = "old" ∨ st = "new") ∧ e = ([some s], [], st)
  | n + 1, e => ∃ e0, RS u tw l n e0 ∧ ∃ v, e0.1.getLast? = some (some v) ∧ v ∈ u.ns ∧ ∃ wh ∈ grownS tw u.ns e0.2.1, e = (e0.1 ++ [readW u tw l v wh e0.2.2], wh, e0.2.2)
structure SpotOk (u : Up) (n : Nat) (e : Spot) : Prop where
  len : e.1.length = n + 1
  st : e.2.2 = "old" ∨ e.2.2 = "new"
  nd : e.2.1.Nodup
  sub : ∀ x ∈ e.2.1, x ∈ u.ns
  so : sortS e.2.1 = e.2.1
theorem RS.ok {u : Up} {tw : List Str} {l : Str} (hn : u.ns.Nodup) : ∀ {n : Nat} {e : Spot}, RS u tw l n e → SpotOk u n e
  | 0, _, ⟨s, hs, st, hst, e⟩ => by subst e; exact ⟨rfl, hst, List.nodup_nil, fun x h => (nomatch h), by show sortS [] = []; unfold sortS; simp⟩
  | n + 1, _, ⟨e0, h0, v, hl, hv, wh, hw, e⟩ => by
    subst e
    have o := RS.ok hn h0
    have g := grownS_ok o.nd hn hw
    exact ⟨by rw [List.length_append, o.len]; rfl, o.st, g.nd, fun x hx => (g.sub x hx).elim (o.sub x) id, g.so o.so⟩
/-- all that walks may be -/
def WC (u : Up) (l : Str) : Nat → List (List (Option Str))
  | 0 => u.ns.map fun s => [some s]
  | n + 1 => (WC u l n).flatMap fun w => match w.getLast? with
    | some (some v) => [w ++ [u.o l v], w ++ [u.n l v]]
    | _ => []
theorem flat_len {α β : Type} {f : α → List β} {k : Nat} : ∀ {l : List α}, (∀ x ∈ l, (f x).length ≤ k) → (l.flatMap f).length ≤ l.length * k
  | [], _ => by simp
  | x :: r, h => by
    have h1 := h x (List.mem_cons_self ..)
    have h2 := flat_len (l := r) (f := f) fun y hy => h y (List.mem_cons_of_mem _ hy)
    rw [List.flatMap_cons, List.length_append, List.length_cons, Nat.succ_mul]; omega
theorem WC_len (u : Up) (l : Str) : ∀ n, (WC u l n).length ≤ u.ns.length * 2 ^ n
  | 0 => by show (u.ns.map _).length ≤ _; rw [List.length_map]; omega
  | n + 1 => by
    have h := WC_len u l n
    have h2 : (WC u l (n + 1)).length ≤ (WC u l n).length * 2 := flat_len fun w _ => by
      split <;> simp
    rw [Nat.pow_succ, ← Nat.mul_assoc]
    exact Nat.le_trans h2 (Nat.mul_le_mul_right 2 h)
theorem readW_or (u : Up) (tw : List Str) (l s : Str) (dn : List Str) (st : Str) : readW u tw l s dn st = u.o l s ∨ readW u tw l s dn st = u.n l s := by
  unfold readW
  split <;> split <;> simp
theorem RS.wc {u : Up} {tw : List Str} {l : Str} : ∀ {n : Nat} {e : Spot}, RS u tw l n e → e.1 ∈ WC u l n
  | 0, _, ⟨s, hs, st, hst, e⟩ => by subst e; exact List.mem_map.mpr ⟨s, hs, rfl⟩
  | n + 1, _, ⟨e0, h0, v, hl, hv, wh, hw, e⟩ => by
    subst e
    refine List.mem_flatMap.mpr ⟨e0.1, RS.wc h0, ?_⟩
    rw [hl]
    rcases readW_or u tw l v wh e0.2.2 with q | q
    · rw [q]; exact List.mem_cons_self ..
    · rw [q]; exact List.mem_cons_of_mem _ (List.mem_cons_self ..)
def SC (u : Up) (l : Str) (n : Nat) : List Spot := (WC u l n).flatMap fun w => (subsL u.ns).flatMap fun d => [(w, sortS d, "old"), (w, sortS d, "new")]
theorem SC_len (u : Up) (l : Str) (n : Nat) : (SC u l n).length ≤ u.ns.length * 2 ^ n * (2 ^ u.ns.length * 2) := by
  refine Nat.le_trans (flat_len (k := 2 ^ u.ns.length * 2) fun w _ => ?_) (Nat.mul_le_mul_right _ (WC_len u l n))
  rw [← subsL_len]
  exact flat_len fun d _ => Nat.le_refl _
theorem RS.sc {u : Up} {tw : List Str} {l : Str} (hn : u.ns.Nodup) {n : Nat} {e : Spot} (h : RS u tw l n e) : e ∈ SC u l n := by
  have o := RS.ok hn h
  refine List.mem_flatMap.mpr ⟨e.1, RS.wc h, List.mem_flatMap.mpr ⟨u.ns.filter fun s => decide (s ∈ e.2.1), subsL_filter _ _, ?_⟩⟩
  have e1 : sortS (u.ns.filter fun s => decide (s ∈ e.2.1)) = e.2.1 := by
    conv => rhs; rw [← o.so]
    refine sortS_of_perm (perm_ext (hn.filter _) o.nd fun x => ?_)
    rw [List.mem_filter, decide_eq_true_eq]
    exact ⟨fun h => h.2, fun h => ⟨o.sub x h, h⟩⟩
  rw [e1]
  obtain ⟨w, d, st⟩ := e
  rcases o.st with q | q
  · have q : st = "old" := q
    subst q; exact List.mem_cons_self ..
  · have q : st = "new" := q
    subst q; exact List.mem_cons_of_mem _ (List.mem_cons_self ..)
/-! ### shown, and memory -/
def Shown (u : Up) (tw : List Str) (l : Str) (k : Nat) (w : List (Option Str)) : Prop := ∃ n, n < k ∧ ∃ d st, RS u tw l n (w, d, st)
theorem RS.mem {u : Up} {tw : List Str} {l : Str} (hn : u.ns.Nodup) : ∀ {n : Nat} {e : Spot}, RS u tw l n e → ∃ q, memW u tw l e.1 = some q ∧ (q.1 = "" ∨ q.1 = e.2.2) ∧ ∀ x ∈ q.2, x ∈ e.2.1
  | 0, _, ⟨s, hs, st, hst, e⟩ => by subst e; exact ⟨("", []), rfl, .inl rfl, fun x h => (nomatch h)⟩
  | n + 1, _, ⟨e0, h0, v, hl, hv, wh, hw, e⟩ => by
    subst e
    have o := RS.ok hn h0
    have g := grownS_ok o.nd hn hw
    obtain ⟨q, hq, h1, h2⟩ := RS.mem hn h0
    obtain ⟨q', hq', h3, h4⟩ := readW_stamp (tw := tw) (l := l) (dn := wh) hv o.st h1 fun x hx => g.sup x (h2 x hx)
    refine ⟨q', ?_, h3, h4⟩
    show memW u tw l (e0.1 ++ [readW u tw l v wh e0.2.2]) = some q'
    have e1 : e0.1 = e0.1.dropLast ++ [some v] := (last_split hl).symm
    unfold memW at hq ⊢
    rw [e1] at hq ⊢
    rw [pairs_snoc, behind_append, hq]
    show (match stampS tw q (wordAt u l [sortS u.ns] (some v) (readW u tw l v wh e0.2.2)) (nodeOf (some v)) with | some q' => behind tw [] q' | none => none) = some q'
    rw [show stampS tw q (wordAt u l [sortS u.ns] (some v) (readW u tw l v wh e0.2.2)) (nodeOf (some v)) = some q' from hq']
    rfl
end DL
set_option Elab.async false
set_option linter.all false
set_option maxRecDepth 100000
set_option maxHeartbeats 2000000
/-! Mb: what has a memory is shown. -/
namespace DL
open PySem L2
variable [Wld]
theorem grow_set {tw dn G : List Str} : ∀ {ns : List Str} {acc : List (List Str)} {p : List Str}, p ∈ acc → ∃ r ∈ ns.foldl (growStep tw dn) acc, ∀ x, x ∈ r ↔ x ∈ p ∨ (x ∈ ns ∧ x ∈ G ∧ x ∉ tw ∧ x ∉ dn)
  | [], acc, p, hp => ⟨p, hp, fun x => ⟨.inl, fun h => h.elim id fun h => nomatch h.1⟩⟩
  | s :: ns, acc, p, hp => by
    by_cases hs : s ∈ G ∧ s ∉ tw ∧ s ∉ dn
    · have h1 : sortS (p ++ [s]) ∈ growStep tw dn acc s := by
        unfold growStep
        rw [if_neg fun h => h.elim hs.2.1 hs.2.2]
        exact List.mem_append_right _ (List.mem_map.mpr ⟨p, hp, rfl⟩)
      obtain ⟨r, hr, h⟩ := grow_set (G := G) (ns := ns) h1
      refine ⟨r, hr, fun x => ?_⟩
      rw [h x, sortS_mem, List.mem_append, List.mem_singleton, List.mem_cons]
      constructor
      · rintro ((h | rfl) | ⟨h1, h2⟩)
        · exact .inl h
        · exact .inr ⟨.inl rfl, hs⟩
        · exact .inr ⟨.inr h1, h2⟩
      · rintro (h | ⟨rfl | h1, h2⟩)
        · exact .inl (.inl h)
        · exact .inl (.inr rfl)
        · exact .inr ⟨h1, h2⟩
    · have h1 : p ∈ growStep tw dn acc s := by
        unfold growStep
        split
        · exact hp
        · exact List.mem_append_left _ hp
      obtain ⟨r, hr, h⟩ := grow_set (G := G) (ns := ns) h1
      refine ⟨r, hr, fun x => ?_⟩
      rw [h x, List.mem_cons]
      constructor
      · rintro (h | ⟨h1, h2⟩)
        · exact .inl h
        · exact .inr ⟨.inr h1, h2⟩
      · rintro (h | ⟨rfl | h1, h2⟩)
        · exact .inl h
        · exact absurd h2 hs
        · exact .inr ⟨h1, h2⟩
theorem readW_dn {u : Up} {tw : List Str} {l s st : Str} {d d' : List Str} (h : s ∈ d ↔ s ∈ d') : readW u tw l s d st = readW u tw l s d' st := by
  unfold readW
  by_cases q : s ∈ d
  · rw [if_pos q, if_pos (h.mp q)]
  · rw [if_neg q, if_neg fun z => q (h.mpr z)]
structure EvOk (u : Up) (tw : List Str) (l : Str) (b : LB) : Prop where
  sub : ∀ x ∈ b.dn, x ∈ u.ns ∧ x ∉ tw
  rs : b.wk ≠ [] → ∃ d, RS u tw l (b.wk.length - 1) (b.wk, d, b.st) ∧ ∀ x ∈ d, x ∈ b.dn
theorem ev_step {u : Up} {tw : List Str} {l : Str} {b b' : LB} {e : Evt} (ok : EvOk u tw l b) (h : lawDone u tw l b e = some b') : EvOk u tw l b' := by
  unfold lawDone at h
  split at h
  · split at h
    · split at h
      · cases h
      · cases h; exact ⟨ok.sub, ok.rs⟩
    · cases h
  · split at h
    · unfold lawMove at h
      split at h
      · rename_i x v hp hl hh
        split at h
        · rename_i hv
          split at h
          · rename_i hr
            cases h
            refine ⟨ok.sub, fun _ => ?_⟩
            have hne : b.wk ≠ [] := fun q => by rw [q] at hl; cases hl
            obtain ⟨d, hd, hs⟩ := ok.rs hne
            obtain ⟨r, hr1, hr2⟩ := grow_set (tw := tw) (dn := d) (G := b.dn) (ns := u.ns) (acc := [d]) (p := d) (List.mem_singleton.mpr rfl)
            have hm : ∀ x, x ∈ r ↔ x ∈ b.dn := fun x => by
              rw [hr2 x]
              constructor
              · rintro (h | h)
                · exact hs x h
                · exact h.2.1
              · intro h
                by_cases q : x ∈ d
                · exact .inl q
                · exact .inr ⟨(ok.sub x h).1, h, (ok.sub x h).2, q⟩
            have hlen := List.length_pos_iff.mpr hne
            refine ⟨r, ?_, fun x hx => (hm x).mp hx⟩
            have e1 : (b.wk ++ [hp]).length - 1 = (b.wk.length - 1) + 1 := by rw [List.length_append, List.length_singleton]; omega
            show RS u tw l ((b.wk ++ [hp]).length - 1) (b.wk ++ [hp], r, b.st)
            rw [e1]
            refine ⟨(b.wk, d, b.st), hd, v, hl, hv, r, hr1, ?_⟩
            rw [← hr, readW_dn (hm v)]
          · cases h
        · cases h
      · cases h
    · split at h
      · unfold lawEnter at h
        split at h
        · split at h
          · rename_i v hv
            split at h
            · cases h
              refine ⟨ok.sub, fun _ => ⟨[], ⟨v, hv, _, ?_, rfl⟩, fun x h => (nomatch h)⟩⟩
              cases b.fp
              · exact .inl rfl
              · exact .inr rfl
            · cases h
          · cases h
        · cases h
      · split at h
        · unfold lawSwitch at h
          split at h
          · split at h
            · rename_i v hv
              split at h
              · rename_i hq
                cases h
                refine ⟨fun x hx => ?_, fun hne => ?_⟩
                · rcases List.mem_append.mp hx with hx | hx
                  · exact ok.sub x hx
                  · rw [List.mem_singleton.mp hx]; exact ⟨hv, hq.2⟩
                · obtain ⟨d, hd, hs⟩ := ok.rs hne
                  exact ⟨d, hd, fun x hx => List.mem_append_left _ (hs x hx)⟩
              · cases h
            · cases h
          · cases h
        · cases h
  · cases h
theorem ev_all {u : Up} {tw : List Str} {l : Str} : ∀ {es : List Evt} {b b' : LB}, EvOk u tw l b → lawAll u tw l b es = some b' → EvOk u tw l b'
  | [], b, b', ok, h => by cases h; exact ok
  | e :: es, b, b', ok, h => by
    have h : (lawDone u tw l b e).bind (fun b' => lawAll u tw l b' es) = some b' := h
    obtain ⟨b1, h1, h2⟩ := Option.bind_eq_some_iff.mp h
    exact ev_all (ev_step ok h1) h2
theorem shown_iff {u : Up} {tw : List Str} {l : Str} {w : List (Option Str)} {k : Nat} (ok : AskOk u l tw w) (hk : w.length ≤ k) : Shown u tw l k w ↔ (memW u tw l w).isSome = true := by
  have hn : u.ns.Nodup := (List.nodup_append.mp ok.net.nd).1
  constructor
  · rintro ⟨n, _, d, st, h⟩
    obtain ⟨q, hq, _⟩ := RS.mem hn h
    have hq : memW u tw l w = some q := hq
    rw [hq]; rfl
  · intro h
    obtain ⟨q, hq⟩ := Option.isSome_iff_exists.mp h
    have hs := run_shown ok hq
    unfold lawShows at hs
    split at hs
    · cases hs
    · rename_i b hb
      have hw : b.wk = w := of_decide_eq_true hs
      have e := ev_all (u := u) (tw := tw) (l := l) (b := b0) ⟨fun x h => absurd (show x ∈ ([] : List Str) from h) (by simp), fun h => absurd rfl h⟩ hb
      obtain ⟨s, t, ew, hs2⟩ := ok.wk.first
      have hne : b.wk ≠ [] := by rw [hw, ew]; exact List.cons_ne_nil _ _
      obtain ⟨d, hd, _⟩ := e.rs hne
      rw [hw] at hd
      refine ⟨w.length - 1, ?_, d, b.st, hd⟩
      have : 0 < w.length := by rw [ew]; exact Nat.succ_pos _
      omega
end DL
set_option Elab.async false
set_option linter.all false
set_option maxRecDepth 100000
set_option maxHeartbeats 4000000
/-! Mc: the law's own search. -/
namespace DL
open PySem L2
/-! ### walks and spots as keys -/
def hopK : Option Str → NestedKey
  | none => .none
  | some s => .text s
def wkK (w : List (Option Str)) : NestedKey := .tup (w.map hopK)
def nsK (l : List Str) : NestedKey := .tup (l.map .text)
def endK (e : Spot) : NestedKey := .tup [wkK e.1, nsK e.2.1, .text e.2.2]
def endD (e : Spot) : D := .tup [walkD e.1, strsT e.2.1, .str e.2.2]
theorem nkDs_map {α : Type} {f : α → NestedKey} {g : α → D} (h : ∀ a, nkD (f a) = g a) : ∀ l : List α, nkD.nkDs (l.map f) = l.map g
  | [] => rfl
  | a :: l => by show nkD (f a) :: nkD.nkDs (l.map f) = g a :: l.map g; rw [h, nkDs_map h l]
theorem nk_hop (h : Option Str) : nkD (hopK h) = hopD h := by cases h <;> rfl
theorem nk_wk (w : List (Option Str)) : nkD (wkK w) = walkD w := by show D.tup (nkD.nkDs (w.map hopK)) = D.tup (w.map hopD); rw [nkDs_map nk_hop]
theorem nk_ns (l : List Str) : nkD (nsK l) = strsT l := by show D.tup (nkD.nkDs (l.map .text)) = D.tup (l.map .str); rw [nkDs_map (f := NestedKey.text) (g := D.str) fun _ => rfl]
theorem nk_end (e : Spot) : nkD (endK e) = endD e := by
  show D.tup [nkD (wkK e.1), nkD (nsK e.2.1), .str e.2.2] = _
  rw [nk_wk, nk_ns]; rfl
theorem depth_map' {α : Type} {f : α → NestedKey} {k : Nat} (h : ∀ a, (f a).depth ≤ k) : ∀ l : List α, NestedKey.depthAll (l.map f) ≤ k
  | [] => Nat.zero_le _
  | a :: l => by
    show max (f a).depth (NestedKey.depthAll (l.map f)) ≤ k
    have h1 := h a
    have h2 := depth_map' h l
    omega
theorem depth_wk (w : List (Option Str)) : (wkK w).depth ≤ 1 := by
  show NestedKey.depthAll (w.map hopK) + 1 ≤ 1
  have := depth_map' (f := hopK) (k := 0) (fun a => by cases a <;> exact Nat.le_refl _) w
  omega
theorem depth_ns (l : List Str) : (nsK l).depth ≤ 1 := by
  show NestedKey.depthAll (l.map .text) + 1 ≤ 1
  have := depth_map' (f := NestedKey.text) (k := 0) (fun a => Nat.le_refl _) l
  omega
theorem depth_end (e : Spot) : (endK e).depth ≤ 2 := by
  show max (wkK e.1).depth (max (nsK e.2.1).depth (max 0 0)) + 1 ≤ 2
  have h1 := depth_wk e.1
  have h2 := depth_ns e.2.1
  omega
theorem tk_wk [Wld] (w : List (Option Str)) : tkey (walkD w) = some (wkK w) := by
  rw [← nk_wk]
  exact tkey_nk (by have := depth_wk w; unfold wkK at this; omega)
theorem tk_end [Wld] (e : Spot) : tkey (endD e) = some (endK e) := by
  rw [← nk_end]
  exact tkey_nk (by have := depth_end e; unfold endK at this; omega)
theorem map_inj {α β : Type} {f : α → β} (h : ∀ a b, f a = f b → a = b) : ∀ {l r : List α}, l.map f = r.map f → l = r
  | [], [], _ => rfl
  | [], _ :: _, e => by cases e
  | _ :: _, [], e => by cases e
  | a :: l, b :: r, e => by
    rw [List.map_cons, List.map_cons] at e
    injection e with e1 e2
    rw [h _ _ e1, map_inj h e2]
theorem hopD_inj {a b : Option Str} (e : hopD a = hopD b) : a = b := by
  cases a <;> cases b <;> first | rfl | (cases e; done) | (cases e; rfl)
theorem walkD_inj {a b : List (Option Str)} (e : walkD a = walkD b) : a = b := map_inj (fun _ _ => hopD_inj) (D.tup.inj e)
theorem strsT_inj {a b : List Str} (e : strsT a = strsT b) : a = b := map_inj (fun _ _ e => D.str.inj e) (D.tup.inj e)
theorem endD_inj {a b : Spot} (e : endD a = endD b) : a = b := by
  have e := D.tup.inj e
  injection e with e1 e
  injection e with e2 e
  injection e with e3 e
  obtain ⟨a1, a2, a3⟩ := a
  obtain ⟨b1, b2, b3⟩ := b
  have e1 := walkD_inj e1
  have e2 := strsT_inj e2
  have e3 := D.str.inj e3
  dsimp only at e1 e2 e3
  rw [e1, e2, e3]
theorem wkK_inj {a b : List (Option Str)} (e : wkK a = wkK b) : a = b := walkD_inj (by rw [← nk_wk, ← nk_wk, e])
theorem endK_inj {a b : Spot} (e : endK a = endK b) : a = b := endD_inj (by rw [← nk_end, ← nk_end, e])
/-! ### a dict as a set -/
def setN {α : Type} (kf : α → NestedKey) (l : List α) : List (NestedKey × D) := l.map fun x => (kf x, .bl true)
theorem setN_len {α : Type} {kf : α → NestedKey} {l : List α} : (setN kf l).length = l.length := List.length_map ..
theorem setN_any {α : Type} [DecidableEq α] {kf : α → NestedKey} (inj : ∀ {a b}, kf a = kf b → a = b) (x : α) (l : List α) : ((setN kf l).any fun kv => decide (kv.1 = kf x)) = decide (x ∈ l) := by
  induction l with
  | nil => rfl
  | cons y r ih =>
    show (decide (kf y = kf x) || ((setN kf r).any fun kv => decide (kv.1 = kf x))) = _
    rw [ih]
    by_cases q : y = x
    · subst q; simp
    · have q2 : ¬ kf y = kf x := fun e => q (inj e)
      have q3 : ¬ x = y := fun e => q e.symm
      simp [q2, q3]
def insL {α : Type} [DecidableEq α] (x : α) (l : List α) : List α := if x ∈ l then l else l ++ [x]
theorem setN_put {α : Type} [DecidableEq α] {kf : α → NestedKey} (inj : ∀ {a b}, kf a = kf b → a = b) (x : α) (l : List α) : putD (setN kf l) (kf x) (.bl true) = setN kf (insL x l) := by
  unfold putD insL
  rw [setN_any inj]
  by_cases q : x ∈ l
  · rw [decide_eq_true q, if_pos rfl, if_pos q]
    unfold setN
    rw [List.map_map]
    refine List.map_congr_left fun y _ => ?_
    show (if kf y = kf x then (kf y, D.bl true) else (kf y, D.bl true)) = _
    split <;> rfl
  · rw [decide_eq_false q, if_neg Bool.false_ne_true, if_neg q]
    unfold setN
    rw [List.map_append]; rfl
theorem setN_val {α : Type} [DecidableEq α] {kf : α → NestedKey} (inj : ∀ {a b}, kf a = kf b → a = b) (x : α) (l : List α) : (valD (setN kf l) (kf x)).isSome = decide (x ∈ l) := by
  rw [← setN_any inj]
  unfold valD
  rw [Option.isSome_map]
  induction setN kf l with
  | nil => rfl
  | cons y r ih =>
    rw [List.find?_cons, List.any_cons]
    cases h : decide (y.1 = kf x)
    · rw [Bool.false_or]; exact ih
    · rfl
theorem wk_put (w : List (Option Str)) (l : List (List (Option Str))) : putD (setN wkK l) (wkK w) (.bl true) = setN wkK (insL w l) := setN_put (kf := wkK) wkK_inj w l
theorem end_put (e : Spot) (l : List Spot) : putD (setN endK l) (endK e) (.bl true) = setN endK (insL e l) := setN_put (kf := endK) endK_inj e l
theorem wk_val (w : List (Option Str)) (l : List (List (Option Str))) : (valD (setN wkK l) (wkK w)).isSome = decide (w ∈ l) := (setN_val (kf := wkK) wkK_inj w l).trans (decide_eq_decide.mpr Iff.rfl)
theorem ins_mem {α : Type} [DecidableEq α] {x y : α} {l : List α} : y ∈ insL x l ↔ y ∈ l ∨ y = x := by
  unfold insL
  split
  · rename_i h
    exact ⟨.inl, fun q => q.elim id fun e => e ▸ h⟩
  · rw [List.mem_append, List.mem_singleton]
theorem ins_nd {α : Type} [DecidableEq α] {x : α} {l : List α} (h : l.Nodup) : (insL x l).Nodup := by
  unfold insL
  split
  · exact h
  · rename_i q
    rw [List.nodup_append]
    exact ⟨h, by simp, fun a ha b hb e => q (by rw [List.mem_singleton.mp hb] at e; rw [← e]; exact ha)⟩
section
variable [Wld] {K : PySem.W.Frag} {a : Ad} {m n : Nat} {Γ : Gm} {te ta tb : TE} {t : TS} {tr : TA} {d x y : D} {E : XK} {R : Posts} {P : D → Prop}
/-! ### _law_grown -/
def N__law_grown : List Str := ["model", "twins", "done", "found", "node", "part", "name"]
def t__law_grown [Wld] (K : PySem.W.Frag) (a : Ad) : TS := (tSeq (tAsg (tLst (tCons (tVar 2) tNil)) (gName 3)) (tSeq (tFor (iSeq K (tOp (rIxX K) (tVar 0) (tC (.str "nodes")))) (gName 4) (tIfS (tAnd (tTest (tOp (rNinX K) (tVar 4) (tVar 1))) (tTest (tOp (rNinX K) (tVar 4) (tVar 2)))) (tAsg (tOp (rAddX K) (tVar 3) (tLc (iSeq K (tVar 3)) (gName 5) tYes (tCB (rTupX K) (tCons (tCB (rSortX K) (tCons (tLc (iSeq K (tOp (rAddX K) (tVar 5) (tTup (tCons (tVar 4) tNil)))) (gName 6) tYes (tCB (rStrX) (tCons (tVar 6) tNil)) [6]) tNil)) tNil)) [5])) (gName 3)) tNext)) (tRet (tVar 3))))
def unS : D → List Str
  | .tup xs => xs.filterMap fun | .str s => some s | _ => none
  | _ => []
theorem unS_strs (l : List Str) : unS (strsT l) = l := by
  show (l.map D.str).filterMap _ = l
  induction l with
  | nil => rfl
  | cons s r ih => rw [List.map_cons, List.filterMap_cons]; show s :: _ = _; rw [ih]
def C_law_grown : Ct := fun ds P => ∃ mo x tw dn, ds = [moD mo, x, strsT dn] ∧ isSeq x = some (tw.map .str) ∧ mo.u.ns.length ≤ 8 ∧ dn.length ≤ 8 ∧ P = (· = .lst ((grownS tw mo.u.ns dn).map strsT))
abbrev sp__law_grown (K : PySem.W.Frag) (a : Ad) : Sp := spF K 0 C_law_grown
theorem grow_plen {tw dn : List Str} {k : Nat} : ∀ {ns : List Str} {acc : List (List Str)}, (∀ p ∈ acc, p.length ≤ k) → ∀ p ∈ ns.foldl (growStep tw dn) acc, p.length ≤ k + ns.length
  | [], acc, h, p, hp => by have := h p hp; rw [List.length_nil]; omega
  | s :: ns, acc, h, p, hp => by
    have h2 := grow_plen (tw := tw) (dn := dn) (k := k + 1) (ns := ns) (acc := growStep tw dn acc s) (fun q hq => by
      unfold growStep at hq
      split at hq
      · have := h q hq; omega
      · rcases List.mem_append.mp hq with hq | hq
        · have := h q hq; omega
        · obtain ⟨r, hr, rfl⟩ := List.mem_map.mp hq
          have := h r hr
          rw [sortS_len, List.length_append, List.length_singleton]; omega) p hp
    rw [List.length_cons]; omega
theorem bd__law_grown (T : Tc K a) : ∀ {vs H Q E}, sp__law_grown K a vs H Q E → t__law_grown K a { nx := fun _ H' => Q .non H', rt := Q } (L2.start N__law_grown vs) H := body_F fun ds P m c => by
  obtain ⟨mo, x, tw, dn, rfl, hx, n8, d8, rfl⟩ := c
  show DS K _ [.val (moD mo), .val x, .val (strsT dn), .no, .no, .no, .no] m _
  unfold t__law_grown
  refine s_seq (es_set (d := .lst ([dn].map strsT)) (ew_lst (ea_cons (f_var rfl) a_nil) (by show 1 ≤ 1000; omega)).f ?_)
  refine s_seq (s_for (n := 0) (PL := (· = mo.u.ns.map .str)) (fun ds i Γ m' => m' = m ∧ ∃ s4 s5 s6, Γ = [.val (moD mo), .val x, .val (strsT dn), .val (.lst (((mo.u.ns.take i).foldl (growStep tw dn) [dn]).map strsT)), s4, s5, s6]) (i_l (e_op ok_ix (f_var rfl).r c_str.r (mo_nodes mo))) (fun ds e => ⟨rfl, _, _, _, rfl⟩) ?_ ?_)
  · rintro ds i d Γ' m' e hd ⟨rfl, s4, s5, s6, rfl⟩
    subst e
    rw [List.getElem?_map] at hd
    cases q : mo.u.ns[i]? with
    | none => rw [q] at hd; cases hd
    | some s =>
      rw [q] at hd; cases hd
      have hil := (List.getElem?_eq_some_iff.mp q).1
      generalize hacc : (mo.u.ns.take i).foldl (growStep tw dn) [dn] = acc
      have hstep : (mo.u.ns.take (i + 1)).foldl (growStep tw dn) [dn] = growStep tw dn acc s := by
        rw [take_succ q, List.foldl_append, hacc]; rfl
      have hal : acc.length ≤ 256 := by
        rw [← hacc]
        refine Nat.le_trans (grow_len tw dn _ _) ?_
        rw [List.length_singleton, Nat.one_mul, List.length_take]
        exact Nat.le_trans (Nat.pow_le_pow_right (by omega) (show min i mo.u.ns.length ≤ 8 by omega)) (by decide)
      have hpl : ∀ p ∈ acc, p.length ≤ 16 := fun p hp => by
        have := grow_plen (tw := tw) (dn := dn) (k := 8) (ns := mo.u.ns.take i) (acc := [dn]) (fun q hq => by rw [List.mem_singleton.mp hq]; exact d8) p (by rw [hacc]; exact hp)
        rw [List.length_take] at this; omega
      refine ⟨_, _, g_name, es_if (b := !decide (s ∈ tw) && !decide (s ∈ dn)) (e_and (e_test (e_op ok_nin (f_var (d := .str s) rfl).r (f_var rfl).r (by rw [inF_sq hx]; rfl))) fun _ => e_test (e_op ok_nin (f_var (d := .str s) rfl).r (f_var (d := strsT dn) rfl).r (by rw [strsT, (inF_strs s dn).2]; rfl))) (fun h => ?_) fun h => s_next ⟨rfl, .val (.str s), s5, s6, ?_⟩⟩
      · rw [Bool.and_eq_true, Bool.not_eq_true', Bool.not_eq_true'] at h
        have h1 := of_decide_eq_false h.1
        have h2 := of_decide_eq_false h.2
        have hin : ∀ {s5 s6 : Sl} (p : List Str), p.length ≤ 16 → DF K (tCB (rTupX K) (tCons (tCB (rSortX K) (tCons (tLc (iSeq K (tOp (rAddX K) (tVar 5) (tTup (tCons (tVar 4) tNil)))) (gName 6) tYes (tCB (rStrX) (tCons (tVar 6) tNil)) [6]) tNil)) tNil)) [.val (moD mo), .val x, .val (strsT dn), .val (.lst (acc.map strsT)), .val (.str s), .val (strsT p), s6] 0 (· = strsT (sortS (p ++ [s]))) := fun {s5 s6} p hp => by
          refine e_cb ok_tup (ew_sorted (ss := p ++ [s]) ((ew_map (is := [6]) (ds := (p ++ [s]).map .str) (f := id) (DI.castL (i_t (ds := p.map .str ++ [.str s]) (e_op ok_add (f_var (d := strsT p) rfl).r (e_tup (ea_cons (f_var (d := .str s) rfl) a_nil) (by show 1 ≤ 1000; omega)).r ?_)) (by rw [List.map_append]; rfl)) (by rw [List.length_map, List.length_append]; show p.length + 1 ≤ 16000000; omega) (by simp) fun j d hd => ⟨_, g_name, ?_⟩).cast (by rw [List.map_id])).f.r (by rw [List.length_append]; show p.length + 1 < 64; omega)).f.r rfl
          · show (if (p.map D.str).length + 1 ≤ sizeLine then some (D.tup (p.map D.str ++ [.str s])) else none) = _
            rw [if_pos (by rw [List.length_map, sizeLine_eq]; omega)]
          · rw [List.getElem?_map] at hd
            cases q : (p ++ [s])[j]? with
            | none => rw [q] at hd; cases hd
            | some z => rw [q] at hd; cases hd; exact e_cb ok_str (f_var rfl).r rfl
        refine es_set (d := .lst ((growStep tw dn acc s).map strsT)) (e_op ok_add (f_var (d := .lst (acc.map strsT)) rfl).r (ew_map (is := [5]) (ds := acc.map strsT) (f := fun d => strsT (sortS (unS d ++ [s]))) (i_l (f_var rfl)) (by rw [List.length_map]; omega) (by simp) fun j d hd => ⟨_, g_name, ?_⟩).f.r ?_) ⟨rfl, _, _, _, by rw [hstep]; rfl⟩
        · rw [List.getElem?_map] at hd
          cases q2 : acc[j]? with
          | none => rw [q2] at hd; cases hd
          | some p =>
            rw [q2] at hd; cases hd
            rw [unS_strs]
            exact hin (s5 := .no) p (hpl p (List.mem_of_getElem? q2))
        · unfold growStep
          rw [if_neg fun h => h.elim h1 h2]
          show (if (acc.map strsT).length + ((acc.map strsT).map fun d => strsT (sortS (unS d ++ [s]))).length ≤ sizeLine then some (D.lst (acc.map strsT ++ (acc.map strsT).map fun d => strsT (sortS (unS d ++ [s])))) else none) = _
          rw [if_pos (by rw [List.length_map, List.length_map, List.length_map, sizeLine_eq]; omega), List.map_append, List.map_map, List.map_map]
          congr 4
          funext p
          show strsT (sortS (unS (strsT p) ++ [s])) = _
          rw [unS_strs]; rfl
      · rw [hstep]
        have h3 : s ∈ tw ∨ s ∈ dn := by
          by_cases q1 : s ∈ tw
          · exact .inl q1
          · by_cases q2 : s ∈ dn
            · exact .inr q2
            · rw [decide_eq_false q1, decide_eq_false q2] at h; cases h
        unfold growStep
        rw [if_pos h3]; rfl
  · rintro ds Γ' m' e ⟨rfl, s4, s5, s6, rfl⟩
    subst e
    rw [List.length_map, List.take_length]
    exact es_ret (f_var rfl) ⟨Nat.le_refl _, rfl⟩
end
end DL
set_option Elab.async false
set_option linter.all false
set_option maxRecDepth 100000
set_option maxHeartbeats 4000000
/-! Md: all walks that are shown, by the law's own search. -/
namespace DL
open PySem L2
section
variable [Wld] {K : PySem.W.Frag} {a : Ad} {m n : Nat} {Γ : Gm} {te ta tb : TE} {t : TS} {tr : TA} {d x y : D} {E : XK} {R : Posts} {P : D → Prop}
/-- one move on from a spot -/
def Nx (u : Up) (tw : List Str) (l : Str) (e0 e : Spot) : Prop := ∃ v, e0.1.getLast? = some (some v) ∧ v ∈ u.ns ∧ ∃ wh ∈ grownS tw u.ns e0.2.1, e = (e0.1 ++ [readW u tw l v wh e0.2.2], wh, e0.2.2)
theorem RS.next {u : Up} {tw : List Str} {l : Str} {n : Nat} {e : Spot} : RS u tw l (n + 1) e ↔ ∃ e0, RS u tw l n e0 ∧ Nx u tw l e0 e := Iff.rfl
def CW (u : Up) (l : Str) : Nat → List (List (Option Str))
  | 0 => []
  | n + 1 => CW u l n ++ WC u l n
theorem CW_len (u : Up) (l : Str) : ∀ n, (CW u l n).length ≤ u.ns.length * (2 ^ n - 1)
  | 0 => Nat.zero_le _
  | n + 1 => by
    have h1 := CW_len u l n
    have h2 := WC_len u l n
    have h3 : 1 ≤ 2 ^ n := Nat.one_le_two_pow
    have e : 2 ^ (n + 1) - 1 = (2 ^ n - 1) + 2 ^ n := by rw [Nat.pow_succ]; omega
    show (CW u l n ++ WC u l n).length ≤ _
    rw [List.length_append, e, Nat.mul_add]; omega
theorem Shown.cw {u : Up} {tw : List Str} {l : Str} : ∀ {k : Nat} {w : List (Option Str)}, Shown u tw l k w → w ∈ CW u l k
  | 0, _, ⟨n, h, _⟩ => absurd h (Nat.not_lt_zero _)
  | k + 1, w, ⟨n, h, d, st, r⟩ => by
    by_cases q : n < k
    · exact List.mem_append_left _ (Shown.cw ⟨n, q, d, st, r⟩)
    · have e : n = k := by omega
      subst e
      exact List.mem_append_right _ r.wc
theorem shown_succ {u : Up} {tw : List Str} {l : Str} {k : Nat} {w : List (Option Str)} : Shown u tw l (k + 1) w ↔ Shown u tw l k w ∨ ∃ e, RS u tw l k e ∧ e.1 = w := by
  constructor
  · rintro ⟨n, h, d, st, r⟩
    by_cases q : n < k
    · exact .inl ⟨n, q, d, st, r⟩
    · have e : n = k := by omega
      subst e
      exact .inr ⟨_, r, rfl⟩
  · rintro (⟨n, h, d, st, r⟩ | ⟨⟨w', d, st⟩, r, e⟩)
    · exact ⟨n, by omega, d, st, r⟩
    · have e : w' = w := e
      subst e
      exact ⟨k, by omega, d, st, r⟩
def ends0 (s : Str) : List Spot := [([some s], [], "old"), ([some s], [], "new")]
theorem ends0_mem {u : Up} {tw : List Str} {l : Str} {e : Spot} : e ∈ u.ns.flatMap ends0 ↔ RS u tw l 0 e := by
  rw [List.mem_flatMap]
  constructor
  · rintro ⟨s, hs, h⟩
    rcases List.mem_cons.mp h with h | h
    · exact ⟨s, hs, _, .inl rfl, h⟩
    · exact ⟨s, hs, _, .inr rfl, List.mem_singleton.mp h⟩
  · rintro ⟨s, hs, st, hst, rfl⟩
    refine ⟨s, hs, ?_⟩
    rcases hst with rfl | rfl
    · exact List.mem_cons_self ..
    · exact List.mem_cons_of_mem _ (List.mem_cons_self ..)
def N__law_all_shown : List Str := ["model", "twins", "lane", "most", "found", "ends", "node", "stamp", "lap", "walk", "done", "later", "whole"]
def t__law_all_shown [Wld] (K : PySem.W.Frag) (a : Ad) : TS := (tSeq (tPar 4 5 (tCons (tDNewN Wld.w) (tCons (tLst tNil) tNil))) (tSeq (tFor (iSeq K (tOp (rIxX K) (tVar 0) (tC (.str "nodes")))) (gName 6) (tAsg (tOp (rAddX K) (tVar 5) (tLc (iSeq K (tTup (tCons (tC (.str "old")) (tCons (tC (.str "new")) tNil)))) (gName 7) tYes (tTup (tCons (tTup (tCons (tVar 6) tNil)) (tCons (tTup tNil) (tCons (tVar 7) tNil)))) [7])) (gName 5))) (tSeq (tFor (iRng1 (tCons (tVar 3) tNil)) (gName 8) (tSeq (tFor (iSeq K (tVar 5)) (gTup K 3 (gCons (gName 9) (gCons (gName 10) (gCons (gName 7) gNil)))) (sDPutN K Wld.w (tVar 4) (tVar 9) (tC (.bl true)))) (tSeq (tAsg (tDNewN Wld.w) (gName 11)) (tSeq (tFor (iSeq K (tVar 5)) (gTup K 3 (gCons (gName 9) (gCons (gName 10) (gCons (gName 7) gNil)))) (tIfS (tTest (tOp (rInX K) (tOp (rIxX K) (tVar 9) (tUn (rU fun i => .int (-i)) (tC (.int 1)))) (tOp (rIxX K) (tVar 0) (tC (.str "nodes"))))) (tFor (iSeq K (tCall (sp__law_grown K a) [] E0 (tCons (tVar 0) (tCons (tVar 1) (tCons (tVar 10) tNil))))) (gName 12) (sDPutN K Wld.w (tVar 11) (tTup (tCons (tOp (rAddX K) (tVar 9) (tTup (tCons (tCall (sp__law_read K a) [] E0 (tCons (tVar 0) (tCons (tVar 1) (tCons (tVar 2) (tCons (tOp (rIxX K) (tVar 9) (tUn (rU fun i => .int (-i)) (tC (.int 1)))) (tCons (tVar 12) (tCons (tVar 7) tNil))))))) tNil))) (tCons (tVar 12) (tCons (tVar 7) tNil)))) (tC (.bl true)))) tNext)) (tAsg (tCB (rListX K) (tCons (tVar 11) tNil)) (gName 5)))))) (tRet (tVar 4)))))
def C_law_all_shown : Ct := fun ds P => ∃ mo x tw l, ds = [moD mo, x, .str l, .int 6] ∧ isSeq x = some (tw.map .str) ∧ MoArg mo l ∧ NetOk mo.u.ns mo.u.es ∧ P = fun d => ∃ ws, d = .dN (setN wkK ws) ∧ ws.Nodup ∧ ∀ w, w ∈ ws ↔ Shown mo.u tw l 6 w
abbrev sp__law_all_shown (K : PySem.W.Frag) (a : Ad) : Sp := spF K 0 C_law_all_shown
theorem e_endT {s : Str} {i : Nat} {st : Str} (h6 : Γ[6]? = some (.val (.str s))) (h7 : Γ[7]? = some (.val (.str st))) : DF K (tTup (tCons (tTup (tCons (tVar 6) tNil)) (tCons (tTup tNil) (tCons (tVar 7) tNil)))) Γ 0 (· = endD ([some s], [], st)) :=
  e_tup (ea_cons (e_tup (ea_cons (f_var h6) a_nil) (by show 1 ≤ 1000; omega)) (ea_cons (e_tup (ds := []) a_nil (by decide)) (ea_cons (f_var h7) a_nil))) (by show 3 ≤ 1000; omega)
theorem g_end {e : Spot} {Γ : Gm} : DG K (gTup K 3 (gCons (gName 9) (gCons (gName 10) (gCons (gName 7) gNil)))) ([9] ++ ([10] ++ ([7] ++ []))) (endD e) Γ (((Γ.set 9 (.val (walkD e.1))).set 10 (.val (strsT e.2.1))).set 7 (.val (.str e.2.2))) :=
  g_tup (gs_cons g_name (gs_cons g_name (gs_cons g_name gs_nil)))
/-- what has been put from the first spots -/
def Got (u : Up) (tw : List Str) (l : Str) (es : List Spot) (ls : List Spot) : Prop := ls.Nodup ∧ ∀ e, e ∈ ls ↔ ∃ e0 ∈ es, Nx u tw l e0 e
theorem bd__law_all_shown (T : Tc K a) : ∀ {vs H Q E}, sp__law_all_shown K a vs H Q E → t__law_all_shown K a { nx := fun _ H' => Q .non H', rt := Q } (L2.start N__law_all_shown vs) H := body_F fun ds P m c => by
  obtain ⟨mo, x, tw, l, rfl, hx, ma, net, rfl⟩ := c
  show DS K _ [.val (moD mo), .val x, .val (.str l), .val (.int 6), .no, .no, .no, .no, .no, .no, .no, .no, .no] m _
  unfold t__law_all_shown
  have n8 := net.n8
  have hnd : mo.u.ns.Nodup := (List.nodup_append.mp net.nd).1
  refine s_seq (s_par (n1 := 0) (n2 := 0) (w_newN (n := 0)).v (ew_lst a_nil).f.v fun s1 s2 ⟨d1, e1, p1⟩ ⟨d2, e2, p2⟩ => ?_)
  subst e1; subst e2; subst p1; subst p2
  refine s_seq (s_for (n := 0) (PL := (· = mo.u.ns.map .str)) (fun ds i Γ m' => m' = m ∧ ∃ s6 s7 s8 s9 s10 s11 s12, Γ = [.val (moD mo), .val x, .val (.str l), .val (.int 6), .ow (.dN []), .val (.lst (((mo.u.ns.take i).flatMap ends0).map endD)), s6, s7, s8, s9, s10, s11, s12]) (i_l (e_op ok_ix (f_var rfl).r c_str.r (mo_nodes mo))) (fun ds e => ⟨rfl, _, _, _, _, _, _, _, rfl⟩) ?_ ?_)
  · rintro ds i d Γ' m' e hd ⟨rfl, s6, s7, s8, s9, s10, s11, s12, rfl⟩
    subst e
    rw [List.getElem?_map] at hd
    cases q : mo.u.ns[i]? with
    | none => rw [q] at hd; cases hd
    | some s =>
      rw [q] at hd; cases hd
      have hil := (List.getElem?_eq_some_iff.mp q).1
      have hlen : ((mo.u.ns.take i).flatMap ends0).length ≤ 16 := by
        refine Nat.le_trans (flat_len (k := 2) fun s _ => Nat.le_refl _) ?_
        rw [List.length_take]; omega
      refine ⟨_, _, g_name, es_set (d := .lst (((mo.u.ns.take (i + 1)).flatMap ends0).map endD)) (e_op ok_add (f_var rfl).r (ew_map (is := [7]) (ds := [D.str "old", .str "new"]) (f := fun d => .tup [walkD [some s], strsT [], d]) (i_t (e_tup (ea_cons c_str (ea_cons c_str a_nil)) (by show 2 ≤ 1000; omega))) (by show 2 ≤ 16000000; omega) (by simp) fun j d hd => ⟨_, g_name, ?_⟩).f.r ?_) ⟨rfl, _, _, _, _, _, _, _, rfl⟩⟩
      · match j, hd with
        | 0, hd => cases hd; exact e_endT (i := 0) rfl rfl
        | 1, hd => cases hd; exact e_endT (i := 0) rfl rfl
      · show (if (((mo.u.ns.take i).flatMap ends0).map endD).length + 2 ≤ sizeLine then some (D.lst (((mo.u.ns.take i).flatMap ends0).map endD ++ [endD ([some s], [], "old"), endD ([some s], [], "new")])) else none) = _
        rw [if_pos (by rw [List.length_map, sizeLine_eq]; omega), take_succ q, List.flatMap_append, List.map_append]
        rfl
  rintro ds Γ' m' e ⟨rfl, s6, s7, s8, s9, s10, s11, s12, rfl⟩
  subst e
  rw [List.length_map, List.take_length]
  refine s_seq (s_for (n := 0) (PL := fun ds => ds.length = 6) (fun ds i Γ m2 => m2 = m' ∧ ∃ (ws : List (List (Option Str))) (es : List Spot) (s6 s7 s8 s9 s10 s11 s12 : Sl), Γ = [.val (moD mo), .val x, .val (.str l), .val (.int 6), .ow (.dN (setN wkK ws)), .val (.lst (es.map endD)), s6, s7, s8, s9, s10, s11, s12] ∧ ws.Nodup ∧ (∀ w, w ∈ ws ↔ Shown mo.u tw l i w) ∧ (∀ e, e ∈ es ↔ RS mo.u tw l i e) ∧ es.length ≤ 1000000) (i_r1 (f_var (d := .int 6) rfl) fun d e => ⟨6, e, by omega, by omega, by rw [rngD_len]; rfl⟩) (fun ds _ => ⟨rfl, [], mo.u.ns.flatMap ends0, s6, s7, s8, s9, s10, s11, s12, rfl, List.nodup_nil, fun w => ⟨fun h => (nomatch h), fun ⟨n, h, _⟩ => absurd h (Nat.not_lt_zero _)⟩, fun e => ends0_mem, ?_⟩) ?_ ?_)
  · refine Nat.le_trans (flat_len (k := 2) fun s _ => Nat.le_refl _) ?_
    omega
  · rintro ds i dd Γ' m' hds hd ⟨rfl, ws, es, s6, s7, s8, s9, s10, s11, s12, rfl, wnd, wmem, emem, elen⟩
    have hil := (List.getElem?_eq_some_iff.mp hd).1
    have wbound : ∀ ws' : List (List (Option Str)), ws'.Nodup → (∀ w ∈ ws', Shown mo.u tw l (i + 1) w) → ws'.length < 16000000 := fun ws' h1 h2 => by
      have h3 := nodup_len h1 fun w hw => Shown.cw (h2 w hw)
      have h4 := CW_len mo.u l (i + 1)
      have h5 : 2 ^ (i + 1) - 1 ≤ 2 ^ 6 := Nat.le_trans (Nat.sub_le _ _) (Nat.pow_le_pow_right (by omega) (by omega))
      have h6 := Nat.mul_le_mul n8 h5
      omega
    refine ⟨_, _, g_name, ?_⟩
    -- found
    refine s_seq (s_for (n := 0) (PL := (· = es.map endD)) (fun ds j Γ m2 => m2 = m' ∧ ∃ (ws' : List (List (Option Str))) (s7 s9 s10 : Sl), Γ = [.val (moD mo), .val x, .val (.str l), .val (.int 6), .ow (.dN (setN wkK ws')), .val (.lst (es.map endD)), s6, s7, .val dd, s9, s10, s11, s12] ∧ ws'.Nodup ∧ ∀ w, w ∈ ws' ↔ w ∈ ws ∨ ∃ e ∈ es.take j, e.1 = w) (i_l (f_var rfl)) (fun ds _ => ⟨rfl, ws, s7, s9, s10, rfl, wnd, fun w => ⟨.inl, fun h => h.elim id fun ⟨e, h, _⟩ => (nomatch (show e ∈ ([] : List Spot) from h))⟩⟩) ?_ ?_)
    · rintro ds j d2 Γ' m' e hd2 ⟨rfl, ws', s7, s9, s10, rfl, nd', mem'⟩
      subst e
      rw [List.getElem?_map] at hd2
      cases q : es[j]? with
      | none => rw [q] at hd2; cases hd2
      | some e0 =>
        rw [q] at hd2; cases hd2
        have hmem : ∀ w ∈ ws', Shown mo.u tw l (i + 1) w := fun w hw => by
          rcases (mem' w).mp hw with h | ⟨e, h, rfl⟩
          · exact shown_succ.mpr (.inl ((wmem w).mp h))
          · exact shown_succ.mpr (.inr ⟨e, (emem e).mp (List.mem_of_mem_take h), rfl⟩)
        refine ⟨_, _, g_end, es_putN (kvs := setN wkK ws') (q := wkK e0.1) rfl (by rw [setN_len]; exact wbound ws' nd' hmem) c_bl (f_var rfl) (tk_wk e0.1) ⟨rfl, insL e0.1 ws', .val (.str e0.2.2), .val (walkD e0.1), .val (strsT e0.2.1), by rw [wk_put]; rfl, ins_nd nd', fun w => ?_⟩⟩
        rw [ins_mem, mem', take_succ q]
        constructor
        · rintro ((h | ⟨e, h, rfl⟩) | rfl)
          · exact .inl h
          · exact .inr ⟨e, List.mem_append_left _ h, rfl⟩
          · exact .inr ⟨e0, List.mem_append_right _ (List.mem_singleton.mpr rfl), rfl⟩
        · rintro (h | ⟨e, h, rfl⟩)
          · exact .inl (.inl h)
          · rcases List.mem_append.mp h with h | h
            · exact .inl (.inr ⟨e, h, rfl⟩)
            · rw [List.mem_singleton.mp h]; exact .inr rfl
    rintro ds2 Γ' m' e ⟨rfl, ws', s7, s9, s10, rfl, nd', mem'⟩
    subst e
    rw [List.length_map, List.take_length] at mem'
    -- later
    refine s_seq (es_setW w_newN ?_)
    refine s_seq (s_for (n := 0) (PL := (· = es.map endD)) (fun ds j Γ m2 => m2 = m' ∧ ∃ (ls : List Spot) (s7 s9 s10 s12 : Sl), Γ = [.val (moD mo), .val x, .val (.str l), .val (.int 6), .ow (.dN (setN wkK ws')), .val (.lst (es.map endD)), s6, s7, .val dd, s9, s10, .ow (.dN (setN endK ls)), s12] ∧ Got mo.u tw l (es.take j) ls) (i_l (f_var rfl)) (fun ds _ => ⟨rfl, [], s7, s9, s10, s12, rfl, List.nodup_nil, fun e => ⟨fun h => (nomatch h), fun ⟨e0, h, _⟩ => (nomatch (show e0 ∈ ([] : List Spot) from h))⟩⟩) ?_ ?_)
    · rintro ds j d2 Γ' m' e hd2 ⟨rfl, ls, s7, s9, s10, s12, rfl, got⟩
      subst e
      rw [List.getElem?_map] at hd2
      cases q : es[j]? with
      | none => rw [q] at hd2; cases hd2
      | some e0 =>
        rw [q] at hd2; cases hd2
        have r0 : RS mo.u tw l i e0 := (emem e0).mp (List.mem_of_getElem? q)
        have ok0 := RS.ok hnd r0
        have hne : e0.1 ≠ [] := fun h => by have := ok0.len; rw [h] at this; cases this
        obtain ⟨hp, hlast⟩ : ∃ h, e0.1.getLast? = some h := by
          cases z : e0.1.getLast? with
          | none => exact absurd (List.getLast?_eq_none_iff.mp z) hne
          | some h => exact ⟨h, rfl⟩
        have ix1 : ∀ {Γ : Gm}, Γ[9]? = some (.val (walkD e0.1)) → DF K (tOp (rIxX K) (tVar 9) (tUn (rU fun i => .int (-i)) (tC (.int 1)))) Γ 0 (· = hopD hp) := fun h => e_op ok_ix (f_var h).r e_neg1.r (ix_last hlast)
        refine ⟨_, _, g_end, es_if (b := decide (hp ∈ mo.u.ns.map some)) (e_test (e_op ok_in (ix1 rfl).r (e_op ok_ix (f_var rfl).r c_str.r (mo_nodes mo)).r (by rw [strsL, inF_hs]; rfl))) (fun h => ?_) fun h => s_next ⟨rfl, ls, .val (.str e0.2.2), .val (walkD e0.1), .val (strsT e0.2.1), s12, rfl, got.1, fun e => ?_⟩⟩
        · obtain ⟨v, hv, rfl⟩ := List.mem_map.mp (of_decide_eq_true h)
          have dlen : e0.2.1.length ≤ 8 := Nat.le_trans (sub_len ok0.nd ok0.sub) n8
          have hgl : (grownS tw mo.u.ns e0.2.1).length ≤ 256 := Nat.le_trans (grownS_len _ _ _) (Nat.le_trans (Nat.pow_le_pow_right (by omega) n8) (by decide))
          refine s_for (n := 0) (PL := (· = (grownS tw mo.u.ns e0.2.1).map strsT)) (fun ds k Γ m2 => m2 = m' ∧ ∃ (ls' : List Spot) (s12 : Sl), Γ = [.val (moD mo), .val x, .val (.str l), .val (.int 6), .ow (.dN (setN wkK ws')), .val (.lst (es.map endD)), s6, .val (.str e0.2.2), .val dd, .val (walkD e0.1), .val (strsT e0.2.1), .ow (.dN (setN endK ls')), s12] ∧ ls'.Nodup ∧ ∀ e, e ∈ ls' ↔ e ∈ ls ∨ ∃ wh ∈ (grownS tw mo.u.ns e0.2.1).take k, e = (e0.1 ++ [readW mo.u tw l v wh e0.2.2], wh, e0.2.2)) (i_lP (P := (· = .lst ((grownS tw mo.u.ns e0.2.1).map strsT))) (e_call (n := 0) (ea_cons (f_var rfl) (ea_cons (f_var rfl) (ea_cons (f_var rfl) a_nil))) ⟨mo, x, tw, e0.2.1, rfl, hx, n8, dlen, rfl⟩) fun d e => ⟨_, e, rfl⟩) (fun ds _ => ⟨rfl, ls, s12, rfl, got.1, fun e => ⟨.inl, fun h => h.elim id fun ⟨wh, h, _⟩ => (nomatch (show wh ∈ ([] : List (List Str)) from h))⟩⟩) ?_ ?_
          · rintro ds k d3 Γ' m' e hd3 ⟨rfl, ls', s12, rfl, nd2, mem2⟩
            subst e
            rw [List.getElem?_map] at hd3
            cases q2 : (grownS tw mo.u.ns e0.2.1)[k]? with
            | none => rw [q2] at hd3; cases hd3
            | some wh =>
              rw [q2] at hd3; cases hd3
              have hwh := List.mem_of_getElem? q2
              have step : ∀ e ∈ ls', RS mo.u tw l (i + 1) e := fun e he => by
                rcases (mem2 e).mp he with h | ⟨wh', h, rfl⟩
                · obtain ⟨e1, h1, h2⟩ := (got.2 e).mp h
                  exact ⟨e1, (emem e1).mp (List.mem_of_mem_take h1), h2⟩
                · exact ⟨e0, r0, v, hlast, hv, wh', List.mem_of_mem_take h, rfl⟩
              have hb : ls'.length < 16000000 := by
                have h1 := nodup_len nd2 fun e he => RS.sc hnd (step e he)
                have h2 := SC_len mo.u l (i + 1)
                have h3 : 2 ^ (i + 1) ≤ 2 ^ 6 := Nat.pow_le_pow_right (by omega) (by omega)
                have h4 : 2 ^ mo.u.ns.length ≤ 2 ^ 8 := Nat.pow_le_pow_right (by omega) n8
                have h5 := Nat.mul_le_mul (Nat.mul_le_mul n8 h3) (Nat.mul_le_mul_right 2 h4)
                omega
              have hw7 : e0.1.length ≤ 7 := by rw [ok0.len]; omega
              refine ⟨_, _, g_name, es_putN (kvs := setN endK ls') (q := endK (e0.1 ++ [readW mo.u tw l v wh e0.2.2], wh, e0.2.2)) rfl (by rw [setN_len]; exact hb) c_bl (y := endD (e0.1 ++ [readW mo.u tw l v wh e0.2.2], wh, e0.2.2)) (e_tup (ea_cons (e_op ok_add (z := walkD (e0.1 ++ [readW mo.u tw l v wh e0.2.2])) (f_var (d := walkD e0.1) rfl).r (e_tup (ea_cons (e_call (n := 0) (P := (· = hopD (readW mo.u tw l v wh e0.2.2))) (ea_cons (f_var rfl) (ea_cons (f_var rfl) (ea_cons (f_var rfl) (ea_cons (ix1 rfl) (ea_cons (f_var rfl) (ea_cons (f_var rfl) a_nil)))))) ⟨mo, x, tw, l, v, wh, e0.2.2, rfl, hx, ma.fl, ma.o, ma.n, hv, rfl⟩) a_nil) (by show 1 ≤ 1000; omega)).r ?_) (ea_cons (f_var rfl) (ea_cons (f_var rfl) a_nil))) (by show 3 ≤ 1000; omega)) (tk_end _) ⟨rfl, insL (e0.1 ++ [readW mo.u tw l v wh e0.2.2], wh, e0.2.2) ls', .val (strsT wh), by rw [end_put]; rfl, ins_nd nd2, fun e => ?_⟩⟩
              · show (if (e0.1.map hopD).length + 1 ≤ sizeLine then some (D.tup (e0.1.map hopD ++ [hopD (readW mo.u tw l v wh e0.2.2)])) else none) = _
                rw [if_pos (by rw [List.length_map, sizeLine_eq]; omega), walkD, List.map_append]; rfl
              · rw [ins_mem, mem2, take_succ q2]
                constructor
                · rintro ((h | ⟨w2, h, rfl⟩) | rfl)
                  · exact .inl h
                  · exact .inr ⟨w2, List.mem_append_left _ h, rfl⟩
                  · exact .inr ⟨wh, List.mem_append_right _ (List.mem_singleton.mpr rfl), rfl⟩
                · rintro (h | ⟨w2, h, rfl⟩)
                  · exact .inl (.inl h)
                  · rcases List.mem_append.mp h with h | h
                    · exact .inl (.inr ⟨w2, h, rfl⟩)
                    · rw [List.mem_singleton.mp h]; exact .inr rfl
          · rintro ds Γ' m' e ⟨rfl, ls', s12, rfl, nd2, mem2⟩
            subst e
            rw [List.length_map, List.take_length] at mem2
            refine ⟨rfl, ls', .val (.str e0.2.2), .val (walkD e0.1), .val (strsT e0.2.1), s12, rfl, nd2, fun e => ?_⟩
            rw [mem2, got.2, take_succ q]
            constructor
            · rintro (⟨e1, h1, h2⟩ | ⟨wh, h1, rfl⟩)
              · exact ⟨e1, List.mem_append_left _ h1, h2⟩
              · exact ⟨e0, List.mem_append_right _ (List.mem_singleton.mpr rfl), v, hlast, hv, wh, h1, rfl⟩
            · rintro ⟨e1, h1, h2⟩
              rcases List.mem_append.mp h1 with h1 | h1
              · exact .inl ⟨e1, h1, h2⟩
              · rw [List.mem_singleton.mp h1] at h2
                obtain ⟨v', h3, h4, wh, h5, h6⟩ := h2
                rw [hlast] at h3
                cases h3
                exact .inr ⟨wh, h5, h6⟩
        · rw [got.2, take_succ q]
          constructor
          · rintro ⟨e1, h1, h2⟩
            exact ⟨e1, List.mem_append_left _ h1, h2⟩
          · rintro ⟨e1, h1, h2⟩
            rcases List.mem_append.mp h1 with h1 | h1
            · exact ⟨e1, h1, h2⟩
            · rw [List.mem_singleton.mp h1] at h2
              obtain ⟨v', h3, h4, wh, h5, h6⟩ := h2
              rw [hlast] at h3
              cases h3
              exact absurd (List.mem_map.mpr ⟨v', h4, rfl⟩) (of_decide_eq_false h)
    rintro ds3 Γ' m' e ⟨rfl, ls, s7, s9, s10, s12, rfl, got⟩
    subst e
    rw [List.length_map, List.take_length] at got
    have lrs : ∀ e, e ∈ ls ↔ RS mo.u tw l (i + 1) e := fun e => by
      rw [got.2, RS.next]
      exact ⟨fun ⟨e0, h1, h2⟩ => ⟨e0, (emem e0).mp h1, h2⟩, fun ⟨e0, h1, h2⟩ => ⟨e0, (emem e0).mpr h1, h2⟩⟩
    refine es_set (d := .lst (ls.map endD)) ((ew_cb ok_list (r_var (d := .dN (setN endK ls)) rfl) rfl).f.cast ?_) ⟨rfl, ws', ls, s6, s7, .val dd, s9, s10, .ow (.dN (setN endK ls)), s12, rfl, nd', fun w => ?_, lrs, ?_⟩
    · show D.lst ((setN endK ls).map fun kv => nkD kv.1) = _
      unfold setN
      rw [List.map_map]
      congr 1
      exact List.map_congr_left fun e _ => nk_end e
    · rw [mem', shown_succ, wmem]
      exact ⟨fun h => h.imp id fun ⟨e, h1, h2⟩ => ⟨e, (emem e).mp h1, h2⟩, fun h => h.imp id fun ⟨e, h1, h2⟩ => ⟨e, (emem e).mpr h1, h2⟩⟩
    · have h1 := nodup_len got.1 fun e he => RS.sc hnd ((lrs e).mp he)
      have h2 := SC_len mo.u l (i + 1)
      have h3 : 2 ^ (i + 1) ≤ 2 ^ 6 := Nat.pow_le_pow_right (by omega) (by omega)
      have h4 : 2 ^ mo.u.ns.length ≤ 2 ^ 8 := Nat.pow_le_pow_right (by omega) n8
      have h5 := Nat.mul_le_mul (Nat.mul_le_mul n8 h3) (Nat.mul_le_mul_right 2 h4)
      omega
  · rintro ds Γ' m' hds ⟨rfl, ws, es, s6, s7, s8, s9, s10, s11, s12, rfl, wnd, wmem, emem, elen⟩
    rw [hds] at wmem
    exact s_freeze 4 rfl (es_ret (f_var rfl) ⟨Nat.le_refl _, ws, rfl, wnd, wmem⟩)
end
end DL
set_option Elab.async false
set_option linter.all false
set_option maxRecDepth 100000
set_option maxHeartbeats 4000000
/-! Me: bent walks, any walks, the law. -/
namespace DL
open PySem L2
section
variable [Wld]
theorem mem_rev (u : Up) (tw : List Str) (l : Str) (w : List (Option Str)) : memW u tw.reverse l w = memW u tw l w := by
  have h1 : stampS tw.reverse = stampS tw := by
    funext q a b
    unfold stampS
    simp only [List.mem_reverse]
  have h2 : ∀ (ps : List (Str × Str)) (q : Mem), behind tw.reverse ps q = behind tw ps q := by
    intro ps
    induction ps with
    | nil => intro q; rfl
    | cons p r ih =>
      intro q
      unfold behind
      rw [h1]
      split
      · exact ih _
      · rfl
  exact h2 _ _
/-- a walk of at most six items -/
def Wk6 (mo : Mo) (w : List (Option Str)) : Prop := WalkOk mo.u.ns mo.u.es w ∧ w.length ≤ 6
theorem RS.walk {mo : Mo} {tw : List Str} {l : Str} (ok : MoOk mo) (hl : l ∈ mo.u.fl) : ∀ {n : Nat} {e : Spot}, n ≤ 300 → RS mo.u tw l n e → WalkOk mo.u.ns mo.u.es e.1 ∧ e.1.length = n + 1
  | 0, _, _, ⟨s, hs, st, hst, e⟩ => by
    subst e
    exact ⟨⟨by show 1 ≤ 400; omega, ⟨s, [], rfl, hs⟩, fun _ hh => (nomatch hh), fun h' q => by cases q; exact isHop_node hs⟩, rfl⟩
  | n + 1, _, hn, ⟨e0, h0, v, hlast, hv, wh, hw, e⟩ => by
    subst e
    obtain ⟨o, len⟩ := RS.walk ok hl (by omega) h0
    refine ⟨⟨by rw [List.length_append, len, List.length_singleton]; omega, ?_, fun q hq => ?_, fun q hq => ?_⟩, by rw [List.length_append, len]; rfl⟩
    · obtain ⟨s, t, e, hs⟩ := o.first
      exact ⟨s, t ++ [readW mo.u tw l v wh e0.2.2], by show e0.1 ++ _ = _; rw [e]; rfl, hs⟩
    · have hq : q ∈ (e0.1 ++ [readW mo.u tw l v wh e0.2.2]).dropLast := hq
      rw [List.dropLast_concat] at hq
      have e1 : e0.1 = e0.1.dropLast ++ [some v] := (last_split hlast).symm
      rw [e1] at hq
      rcases List.mem_append.mp hq with h | h
      · exact o.mid q h
      · exact ⟨v, List.mem_singleton.mp h, hv⟩
    · have hq : (e0.1 ++ [readW mo.u tw l v wh e0.2.2]).getLast? = some q := hq
      rw [List.getLast?_concat] at hq
      cases hq
      rcases readW_or mo.u tw l v wh e0.2.2 with q | q
      · rw [q]; exact (ok.o l hl).ok v hv
      · rw [q]; exact (ok.n l hl).ok v hv
theorem Shown.wk {mo : Mo} {tw : List Str} {l : Str} {w : List (Option Str)} (ok : MoOk mo) (hl : l ∈ mo.u.fl) (h : Shown mo.u tw l 6 w) : Wk6 mo w := by
  obtain ⟨n, hn, d, st, r⟩ := h
  obtain ⟨o, len⟩ := RS.walk ok hl (by omega) r
  have len : w.length = n + 1 := len
  exact ⟨o, by omega⟩
theorem list_wk {mo : Mo} : ∀ {l : List D}, (∀ y ∈ l, ∃ w, y = walkD w ∧ Wk6 mo w) → ∃ ws : List (List (Option Str)), l = ws.map walkD ∧ ws.length = l.length ∧ ∀ w ∈ ws, Wk6 mo w
  | [], _ => ⟨[], rfl, rfl, fun w h => (nomatch h)⟩
  | y :: r, h => by
    obtain ⟨w, e, hw⟩ := h y (List.mem_cons_self ..)
    obtain ⟨ws, e2, e3, h2⟩ := list_wk (l := r) fun z hz => h z (List.mem_cons_of_mem _ hz)
    exact ⟨w :: ws, by rw [e, e2]; rfl, by rw [List.length_cons, List.length_cons, e3], fun z hz => (List.mem_cons.mp hz).elim (fun q => q ▸ hw) (h2 z)⟩
theorem alls_mem {R : D → Prop} : ∀ {ds es : List D}, Alls (fun _ e => R e) ds es → es.length = ds.length ∧ ∀ e ∈ es, R e
  | _, _, .nil => ⟨rfl, fun e h => nomatch h⟩
  | _, _, .cons h r => by
    obtain ⟨h1, h2⟩ := alls_mem r
    exact ⟨by rw [List.length_cons, List.length_cons, h1], fun e he => (List.mem_cons.mp he).elim (fun q => q ▸ h) (h2 e)⟩
theorem okL_pys : ∀ l : List Str, (∀ s ∈ l, NameOk s) → okL (pyL (l.map .str)) = true
  | [], _ => rfl
  | s :: r, h => by
    refine Bool.and_eq_true_iff.mpr ⟨?_, okL_pys r fun x hx => h x (List.mem_cons_of_mem _ hx)⟩
    show (s.cps.toList.all fun c => decide (c < 16 ^ 8)) = true
    refine List.all_eq_true.mpr fun c hc => decide_eq_true ?_
    have hc := (h s (List.mem_cons_self ..)).all c hc
    have hall : ∀ c ∈ letters, c < 16 ^ 8 := by decide +kernel
    exact hall c hc
theorem szL_pys : ∀ l : List Str, (∀ s ∈ l, NameOk s) → szL (pyL (l.map .str)) ≤ l.length * 64
  | [], _ => Nat.zero_le _
  | s :: r, h => by
    have h1 := (h s (List.mem_cons_self ..)).le
    have h2 := szL_pys r fun x hx => h x (List.mem_cons_of_mem _ hx)
    show 10 * s.length + 2 + 2 + szL (pyL (r.map .str)) ≤ (r.length + 1) * 64
    omega
theorem repOk_strs {l : List Str} (h : ∀ s ∈ l, NameOk s) (hl : l.length ≤ 60) : RepOk (strsL l) := by
  refine ⟨okL_pys l h, ?_, ?_, rfl⟩
  · have : (D.lst (l.map .str)).depth ≤ 0 + 1 := depth_map (f := D.str) (fun a => Nat.le_refl _) l
    exact Nat.le_trans this (by omega)
  · have h1 := szL_pys l h
    show 2 + szL (pyL (l.map .str)) ≤ _
    omega
theorem repOk_bls (b c : Bool) : RepOk (.lst [.bl b, .bl c]) := by
  cases b <;> cases c <;> exact ⟨rfl, by decide +kernel, by decide +kernel, rfl⟩
end
section
variable [Wld] {K : PySem.W.Frag} {a : Ad} {m n : Nat} {Γ : Gm} {te ta tb : TE} {t : TS} {tr : TA} {d x y : D} {E : XK} {R : Posts} {P : D → Prop}
/-! ### _law_bent_walk -/
theorem f_hops {mo : Mo} {i : Nat} (net : NetOk mo.u.ns mo.u.es) (h : Γ[i]? = some (.val (moD mo))) : DF K (tOp (rAddX K) (tOp (rAddX K) (tOp (rIxX K) (tVar i) (tC (.str "nodes"))) (tOp (rIxX K) (tVar i) (tC (.str "exits")))) (tLst (tCons (tC .non) tNil))) Γ 0 (· = .lst ((hopsAll mo.u.ns mo.u.es).map hopD)) := by
  have n8 := net.n8
  have e3 := net.e3
  refine (ew_op ok_addL (ew_op ok_addL (z := .lst (mo.u.ns.map .str ++ mo.u.es.map .str)) (e_op ok_ix (f_var h).r c_str.r (mo_nodes mo)).r (e_op ok_ix (f_var h).r c_str.r (mo_exits mo)).r ?_).f.r (ew_lst (ea_cons c_non a_nil) (by show 1 ≤ 1000; omega)).f.r ?_).f
  · show (if (mo.u.ns.map D.str).length + (mo.u.es.map D.str).length ≤ sizeLine then some (D.lst (mo.u.ns.map D.str ++ mo.u.es.map D.str)) else none) = _
    rw [if_pos (by rw [List.length_map, List.length_map, sizeLine_eq]; omega)]
  · show (if (mo.u.ns.map D.str ++ mo.u.es.map D.str).length + 1 ≤ sizeLine then some (D.lst (mo.u.ns.map D.str ++ mo.u.es.map D.str ++ [.non])) else none) = _
    rw [if_pos (by rw [List.length_append, List.length_map, List.length_map, sizeLine_eq]; omega)]
    unfold hopsAll
    rw [List.map_append, List.map_append, List.map_map, List.map_map]; rfl
theorem c_pick_hops {mo : Mo} (net : NetOk mo.u.ns mo.u.es) : C_law_pick [.st, .lst ((hopsAll mo.u.ns mo.u.es).map hopD)] (· ∈ (hopsAll mo.u.ns mo.u.es).map hopD) := by
  have n8 := net.n8
  have e3 := net.e3
  exact ⟨.lst ((hopsAll mo.u.ns mo.u.es).map hopD), (hopsAll mo.u.ns mo.u.es).map hopD, rfl, rfl, fun e => by simp [hopsAll] at e, by unfold hopsAll; simp only [List.length_map, List.length_append, List.length_singleton]; omega, rfl⟩
theorem putW_len {w : List (Option Str)} {i : Nat} {h : Option Str} (hi : i < w.length) : (putW w i h).length = w.length := by
  unfold putW
  rw [List.length_append, List.length_append, List.length_take, List.length_drop, List.length_singleton]; omega
theorem WalkOk.put0 {ns es : List Str} {w : List (Option Str)} {i : Nat} {h : Option Str} (ok : WalkOk ns es w) (i2 : i < w.length) (hh : isHop ns es (hopD h) = true) (hm : ∀ q ∈ (putW w i h).take 1 ++ (putW w i h).dropLast, q ∈ ns.map some) : WalkOk ns es (putW w i h) := by
  have hl := putW_len (h := h) i2
  refine ⟨by rw [hl]; exact ok.le, ?_, fun q hq => ?_, fun q hq => ?_⟩
  · cases e : putW w i h with
    | nil => rw [e] at hl; have : (0 : Nat) = w.length := hl; omega
    | cons x t =>
      rw [e] at hm
      obtain ⟨s, hs, e2⟩ := List.mem_map.mp (hm x (List.mem_cons_self ..))
      exact ⟨s, t, by rw [e2], hs⟩
  · obtain ⟨s, hs, e⟩ := List.mem_map.mp (hm q (List.mem_append_right _ hq))
    exact ⟨s, e.symm, hs⟩
  · have hq := List.mem_of_getLast? hq
    unfold putW at hq
    rcases List.mem_append.mp hq with hq | hq
    · rcases List.mem_append.mp hq with hq | hq
      · exact ok.all q (List.mem_of_mem_take hq)
      · rw [List.mem_singleton.mp hq]; exact hh
    · exact ok.all q (List.mem_of_mem_drop hq)
def N__law_bent_walk : List Str := ["state", "model", "walk", "at", "hops", "found", "bad", "item"]
def t__law_bent_walk [Wld] (K : PySem.W.Frag) (a : Ad) : TS := (tSeq (tPar 3 4 (tCons (tCall (sp__law_draw K a) [] E0 (tCons (tVar 0) (tCons (tCB (rLenX K) (tCons (tVar 2) tNil)) tNil))) (tCons (tOp (rAddX K) (tOp (rAddX K) (tOp (rIxX K) (tVar 1) (tC (.str "nodes"))) (tOp (rIxX K) (tVar 1) (tC (.str "exits")))) (tLst (tCons (tC .non) tNil))) tNil))) (tSeq (tAsg (tOp (rAddX K) (tOp (rAddX K) (tSl (rSlX K) (tVar 2) tNoPart (tPart (tVar 3))) (tTup (tCons (tCall (sp__law_pick K a) [] E0 (tCons (tVar 0) (tCons (tVar 4) tNil))) tNil))) (tSl (rSlX K) (tVar 2) (tPart (tOp (rAddX K) (tVar 3) (tC (.int 1)))) tNoPart)) (gName 5)) (tSeq (tAsg (tLc (iSeq K (tOp (rAddX K) (tSl (rSlX K) (tVar 5) tNoPart (tPart (tC (.int 1)))) (tSl (rSlX K) (tVar 5) tNoPart (tPart (tUn (rU fun i => .int (-i)) (tC (.int 1))))))) (gName 7) (tTest (tOp (rNinX K) (tVar 7) (tOp (rIxX K) (tVar 1) (tC (.str "nodes"))))) (tVar 7) [7]) (gName 6)) (tRet (tIf (tTest (tOp (rEqP K) (tVar 6) (tLst tNil))) (tVar 5) (tVar 2))))))
def C_law_bent_walk : Ct := fun ds P => ∃ mo w, ds = [.st, moD mo, walkD w] ∧ NetOk mo.u.ns mo.u.es ∧ Wk6 mo w ∧ P = fun d => ∃ w', d = walkD w' ∧ Wk6 mo w'
abbrev sp__law_bent_walk (K : PySem.W.Frag) (a : Ad) : Sp := spF K 2 C_law_bent_walk
theorem bd__law_bent_walk (T : Tc K a) : ∀ {vs H Q E}, sp__law_bent_walk K a vs H Q E → t__law_bent_walk K a { nx := fun _ H' => Q .non H', rt := Q } (L2.start N__law_bent_walk vs) H := body_F fun ds P m c => by
  obtain ⟨mo, w, rfl, net, ⟨ok, l6⟩, rfl⟩ := c
  show DS K _ [.val .st, .val (moD mo), .val (walkD w), .no, .no, .no, .no, .no] (m + 1 + 1) _
  unfold t__law_bent_walk
  have h400 := ok.le
  have h1 := ok.ge
  have hlen : lenF (walkD w) = some (.int w.length) := by show some (D.int ((w.map hopD).length : Nat)) = _; rw [List.length_map]
  refine s_seq (s_par (n1 := 1) (n2 := 0) (e_call (n := 1) (P := fun d => ∃ i : Nat, i < w.length ∧ d = .int i) (ea_cons (f_var rfl) (ea_cons (e_cb ok_len (f_var rfl).r hlen) a_nil)) ⟨w.length, rfl, by omega, by omega, rfl⟩).v (f_hops (i := 1) net rfl).v fun s1 s2 ⟨d1, e1, i, i2, p1⟩ ⟨d2, e2, p2⟩ => ?_)
  subst e1; subst e2; subst p1; subst p2
  have ecast : ((i + 1 : Nat) : Int) = (i : Int) + 1 := Int.natCast_add ..
  refine s_seq (s_set (n := 1) (P := fun d => ∃ h ∈ hopsAll mo.u.ns mo.u.es, d = walkD (putW w i h)) (f_op (n1 := 1) (n2 := 0) (P1 := fun d => ∃ h ∈ hopsAll mo.u.ns mo.u.es, d = walkD (w.take i ++ [h])) (P2 := (· = walkD (w.drop (i + 1)))) ok_add (f_op (n1 := 0) (n2 := 1) (P1 := (· = walkD (w.take i))) (P2 := fun d => ∃ h ∈ hopsAll mo.u.ns mo.u.es, d = walkD [h]) ok_add ((e_sl (xs := w.map hopD) (f_var rfl).r o_none (eo_some (f_var (d := .int i) rfl))).cast (by rw [cut_to, ← List.map_take]; rfl)).r ((f_tup (n := 1) (a_cons (n1 := 1) (n2 := 0) (e_call (n := 1) (P := (· ∈ (hopsAll mo.u.ns mo.u.es).map hopD)) (ea_cons (f_var rfl) (ea_cons (f_var rfl) a_nil)) (c_pick_hops net)) a_nil) (fun ds ⟨_, _, e, _, e2⟩ => by rw [e, e2]; show 1 ≤ 1000; omega)).imp fun d ⟨ds, e, y, _, e1, hy, e2⟩ => by
      obtain ⟨h, hh, e4⟩ := List.mem_map.mp hy
      exact ⟨h, hh, by rw [e, e1, e2, ← e4]; rfl⟩).r fun u v e1 ⟨h, hh, e2⟩ => ⟨walkD (w.take i ++ [h]), ?_, h, hh, rfl⟩).r ((e_sl (xs := w.map hopD) (f_var rfl).r (eo_some (e_op ok_add (f_var (d := .int i) rfl).r c_int.r rfl)) o_none).cast (by rw [← ecast, cut_from (by rw [List.length_map]; omega), ← List.map_drop]; rfl)).r fun u v ⟨h, hh, e1⟩ e2 => ⟨walkD (putW w i h), ?_, h, hh, rfl⟩) fun d ⟨h, hh, e⟩ => ?_)
  · rw [e1, e2]
    show (if ((w.take i).map hopD).length + 1 ≤ sizeLine then some (D.tup ((w.take i).map hopD ++ [hopD h])) else none) = _
    rw [if_pos (by rw [List.length_map, List.length_take, sizeLine_eq]; omega), walkD, List.map_append]; rfl
  · rw [e1, e2]
    show (if ((w.take i ++ [h]).map hopD).length + ((w.drop (i + 1)).map hopD).length ≤ sizeLine then some (D.tup ((w.take i ++ [h]).map hopD ++ (w.drop (i + 1)).map hopD)) else none) = _
    rw [if_pos (by rw [List.length_map, List.length_map, List.length_append, List.length_take, List.length_drop, List.length_singleton, sizeLine_eq]; omega), ← List.map_append]; rfl
  subst e
  have hfl := putW_len (h := h) i2
  generalize hf : putW w i h = f at hfl ⊢
  refine s_seq (es_set (d := .lst ((((f.take 1 ++ f.dropLast).map hopD).filter fun d => !decide (hopO d ∈ mo.u.ns.map some)).map id)) (ew_lc (is := [7]) (i_seq (x := .tup ((f.take 1 ++ f.dropLast).map hopD)) (e_op ok_add (x := .tup ((f.take 1).map hopD)) (y := .tup (f.dropLast.map hopD)) ((e_sl (xs := f.map hopD) (f_var rfl).r o_none (eo_some c_int)).cast (by rw [show (1 : Int) = ((1 : Nat) : Int) from rfl, cut_to, List.map_take])).r ((e_sl (xs := f.map hopD) (f_var rfl).r o_none (eo_some e_neg1)).cast (by rw [cut_last, List.map_dropLast])).r ?_) rfl) (by rw [List.length_map, List.length_append, List.length_take, List.length_dropLast]; omega) (by simp) fun j d hd => ?_).f ?_)
  · show (if ((f.take 1).map hopD).length + (f.dropLast.map hopD).length ≤ sizeLine then some (D.tup ((f.take 1).map hopD ++ f.dropLast.map hopD)) else none) = _
    rw [if_pos (by rw [List.length_map, List.length_map, List.length_take, List.length_dropLast, sizeLine_eq]; omega), ← List.map_append]
  · rw [List.getElem?_map] at hd
    cases q : (f.take 1 ++ f.dropLast)[j]? with
    | none => rw [q] at hd; cases hd
    | some z =>
      rw [q] at hd; cases hd
      exact ⟨_, g_name, (t_inN (w := z) (f_var rfl) rfl).cast (by rw [hopO_hop]), fun _ => f_var rfl⟩
  · rw [List.map_id]
    have hpl : ∀ y ∈ ((f.take 1 ++ f.dropLast).map hopD).filter (fun d => !decide (hopO d ∈ mo.u.ns.map some)), y.plain = true := fun y hy => by
      obtain ⟨z, _, rfl⟩ := List.mem_map.mp (List.mem_filter.mp hy).1
      exact plain_flat (flat_hop z)
    refine es_ret ((e_if (b := (((f.take 1 ++ f.dropLast).map hopD).filter fun d => !decide (hopO d ∈ mo.u.ns.map some)).isEmpty) (e_test (e_op ok_eq (f_var rfl).r (ew_lst a_nil).f.r (by rw [eqF_nil hpl]; rfl))) (fun _ => f_var (d := walkD f) rfl) fun _ => f_var (d := walkD w) rfl)) ⟨by omega, ?_⟩
    cases hb : (((f.take 1 ++ f.dropLast).map hopD).filter fun d => !decide (hopO d ∈ mo.u.ns.map some)).isEmpty with
    | false => exact ⟨w, rfl, ok, l6⟩
    | true =>
      refine ⟨f, rfl, ?_, by omega⟩
      rw [← hf]
      refine ok.put0 i2 (hopsAll_ok hh) fun q hq => ?_
      rw [hf] at hq
      rw [List.isEmpty_iff, List.filter_eq_nil_iff] at hb
      have := hb (hopD q) (List.mem_map_of_mem hq)
      rw [hopO_hop] at this
      simpa using this
/-! ### _law_any_walk -/
def N__law_any_walk : List Str := ["state", "model", "found", "item"]
def t__law_any_walk [Wld] (K : PySem.W.Frag) (a : Ad) : TS := (tSeq (tAsg (tLc (iRng1 (tCons (tOp (rAddX K) (tC (.int 1)) (tCall (sp__law_draw K a) [] E0 (tCons (tVar 0) (tCons (tC (.int 5)) tNil)))) tNil)) (gName 3) tYes (tCall (sp__law_pick K a) [] E0 (tCons (tVar 0) (tCons (tOp (rIxX K) (tVar 1) (tC (.str "nodes"))) tNil))) [3]) (gName 2)) (tRet (tOp (rAddX K) (tCB (rTupX K) (tCons (tVar 2) tNil)) (tTup (tCons (tCall (sp__law_pick K a) [] E0 (tCons (tVar 0) (tCons (tOp (rAddX K) (tOp (rAddX K) (tOp (rIxX K) (tVar 1) (tC (.str "nodes"))) (tOp (rIxX K) (tVar 1) (tC (.str "exits")))) (tLst (tCons (tC .non) tNil))) tNil))) tNil)))))
def C_law_any_walk : Ct := fun ds P => ∃ mo, ds = [.st, moD mo] ∧ NetOk mo.u.ns mo.u.es ∧ P = fun d => ∃ w', d = walkD w' ∧ Wk6 mo w'
abbrev sp__law_any_walk (K : PySem.W.Frag) (a : Ad) : Sp := spF K 7 C_law_any_walk
theorem c_pick_nodes {mo : Mo} (net : NetOk mo.u.ns mo.u.es) : C_law_pick [.st, strsL mo.u.ns] (· ∈ mo.u.ns.map D.str) := by
  have n8 := net.n8
  have n1 := net.n1
  exact ⟨strsL mo.u.ns, mo.u.ns.map .str, rfl, rfl, fun e => by rw [List.map_eq_nil_iff.mp e] at n1; exact absurd n1 (by decide), by rw [List.length_map]; omega, rfl⟩
theorem alls_nodes {ns : List Str} : ∀ {ds es : List D}, Alls (fun _ e => e ∈ ns.map D.str) ds es → ∃ ss : List Str, es = (ss.map some).map hopD ∧ ss.length = ds.length ∧ ∀ s ∈ ss, s ∈ ns
  | _, _, .nil => ⟨[], rfl, rfl, fun s h => nomatch h⟩
  | _, _, .cons h r => by
    obtain ⟨ss, e1, e2, e3⟩ := alls_nodes r
    obtain ⟨c, hc, e⟩ := List.mem_map.mp h
    exact ⟨c :: ss, by rw [e1, ← e]; rfl, by rw [List.length_cons, List.length_cons, e2], fun s hs => (List.mem_cons.mp hs).elim (fun q => q ▸ hc) (e3 s)⟩
theorem any_ok {ns es : List Str} {ss : List Str} {h : Option Str} (h1 : 1 ≤ ss.length) (h5 : ss.length ≤ 5) (hs : ∀ s ∈ ss, s ∈ ns) (hh : isHop ns es (hopD h) = true) : WalkOk ns es (ss.map some ++ [h]) := by
  refine ⟨by rw [List.length_append, List.length_map, List.length_singleton]; omega, ?_, fun q hq => ?_, fun q hq => ?_⟩
  · match ss, h1 with
    | s :: r, _ => exact ⟨s, r.map some ++ [h], rfl, hs s (List.mem_cons_self ..)⟩
  · rw [List.dropLast_concat] at hq
    obtain ⟨s, hm, rfl⟩ := List.mem_map.mp hq
    exact ⟨s, rfl, hs s hm⟩
  · rw [List.getLast?_concat] at hq
    cases hq; exact hh
theorem bd__law_any_walk (T : Tc K a) : ∀ {vs H Q E}, sp__law_any_walk K a vs H Q E → t__law_any_walk K a { nx := fun _ H' => Q .non H', rt := Q } (L2.start N__law_any_walk vs) H := body_F fun ds P m c => by
  obtain ⟨mo, rfl, net, rfl⟩ := c
  show DS K _ [.val .st, .val (moD mo), .no, .no] (m + 1 + (1 + 5 * 1)) _
  unfold t__law_any_walk
  refine s_seq (s_set (n := 1 + 5 * 1) (P := fun d => ∃ ss : List Str, d = .lst ((ss.map some).map hopD) ∧ 1 ≤ ss.length ∧ ss.length ≤ 5 ∧ ∀ s ∈ ss, s ∈ mo.u.ns) ((w_map (n := 1) (n2 := 1) (L := 5) (PL := fun ds => 1 ≤ ds.length ∧ ds.length ≤ 5) (R := fun _ e => e ∈ mo.u.ns.map D.str) (is := [3]) (i_r1 (f_draw1 (i := 0) (j := 0) (k := 5) rfl c_int (by omega) (by omega)) fun d ⟨z, z1, z2, e⟩ => ⟨z, e, by omega, by omega, by rw [rngD_len, Int.toNat_natCast]; exact ⟨z1, z2⟩⟩) (fun ds h => h.2) (by omega) (by simp) fun ds i d h hd => ⟨_, g_name, e_call (n := 1) (P := (· ∈ mo.u.ns.map D.str)) (ea_cons (f_var rfl) (ea_cons (e_op ok_ix (f_var rfl).r c_str.r (mo_nodes mo)) a_nil)) (c_pick_nodes net)⟩).f.imp fun d ⟨ds, es, ⟨h1, h5⟩, e, al⟩ => ?_) fun d ⟨ss, e, h1, h5, hs⟩ => ?_)
  · obtain ⟨ss, e1, e2, e3⟩ := alls_nodes al
    exact ⟨ss, by rw [e, e1], by omega, by omega, e3⟩
  subst e
  refine s_ret (n := 1) (P := fun d => ∃ h ∈ hopsAll mo.u.ns mo.u.es, d = walkD (ss.map some ++ [h])) (f_op (n1 := 0) (n2 := 1) (P1 := (· = walkD (ss.map some))) (P2 := fun d => ∃ h ∈ hopsAll mo.u.ns mo.u.es, d = walkD [h]) ok_add (e_cb ok_tup (f_var rfl).r rfl).r ((f_tup (n := 1) (a_cons (n1 := 1) (n2 := 0) (e_call (n := 1) (P := (· ∈ (hopsAll mo.u.ns mo.u.es).map hopD)) (ea_cons (f_var rfl) (ea_cons (f_hops (i := 1) net rfl) a_nil)) (c_pick_hops net)) a_nil) (fun ds ⟨_, _, e, _, e2⟩ => by rw [e, e2]; show 1 ≤ 1000; omega)).imp fun d ⟨ds, e, y, _, e1, hy, e2⟩ => by
      obtain ⟨h, hh, e4⟩ := List.mem_map.mp hy
      exact ⟨h, hh, by rw [e, e1, e2, ← e4]; rfl⟩).r fun u v e1 ⟨h, hh, e2⟩ => ⟨walkD (ss.map some ++ [h]), ?_, h, hh, rfl⟩) fun d ⟨h, hh, e⟩ => ⟨Nat.le_refl _, _, e, any_ok h1 h5 hs (hopsAll_ok hh), by rw [List.length_append, List.length_map, List.length_singleton]; omega⟩
  rw [e1, e2]
  show (if ((ss.map some).map hopD).length + 1 ≤ sizeLine then some (D.tup ((ss.map some).map hopD ++ [hopD h])) else none) = _
  rw [if_pos (by rw [List.length_map, List.length_map, sizeLine_eq]; omega), walkD, List.map_append]; rfl
end
end DL
set_option Elab.async false
set_option linter.all false
set_option maxRecDepth 100000
set_option maxHeartbeats 4000000
/-! Mf: law_k81. -/
namespace DL
open PySem L2
section
variable [Wld] {K : PySem.W.Frag} {a : Ad} {m n : Nat} {Γ : Gm} {te ta tb : TE} {t : TS} {tr : TA} {d x y : D} {E : XK} {R : Posts} {P : D → Prop}
def N_law : List Str := ["script", "k", "cell", "state", "model", "twins", "change", "lane", "shown_walks", "some", "walk", "kept", "found", "lap"]
def t_law [Wld] (K : PySem.W.Frag) (a : Ad) : TS := (tSeq (tFor (iEnumS K (tCons (tSl (rSlX K) (tOrT K (tVar 0) (tLst (tCons (tC (.int 5)) tNil))) tNoPart (tPart (tC (.int 3)))) tNil)) (gTup K 2 (gCons (gName 1) (gCons (gName 2) gNil))) (tSeq (tAsg (tCall (sp__law_begin K a) [] E0 (tCons (tVar 2) (tCons (tVar 1) tNil))) (gName 3)) (tSeq (tAsg (tCall (sp__law_shape K a) [] E0 (tCons (tVar 3) (tCons (tC (.int 4)) (tCons (tC (.int 2)) tNil)))) (gUnl K 2 (gCons (gName 4) (gCons (gName 5) gNil)))) (tSeq (tPar 6 7 (tCons (tCall (sp__law_update K a) [] E0 (tCons (tVar 4) tNil)) (tCons (tCall (sp__law_pick K a) [] E0 (tCons (tVar 3) (tCons (tCB (rListX K) (tCons (tOp (rIxX K) (tVar 4) (tC (.str "flows"))) tNil)) tNil))) tNil))) (tSeq (tAsg (tCall (sp__law_all_shown K a) [] E0 (tCons (tVar 4) (tCons (tVar 5) (tCons (tVar 7) (tCons (tC (.int 6)) tNil))))) (gName 8)) (tSeq (tAsg (tSl (rSlX K) (tCall (sp__law_mixed K a) [] E0 (tCons (tVar 3) (tCons (tCB (rListX K) (tCons (tVar 8) tNil)) tNil))) tNoPart (tPart (tC (.int 30)))) (gName 9)) (tSeq (tAsg (tOp (rAddX K) (tVar 9) (tLc (iSeq K (tVar 9)) (gName 10) tYes (tCall (sp__law_bent_walk K a) [] E0 (tCons (tVar 3) (tCons (tVar 4) (tCons (tVar 10) tNil)))) [10])) (gName 9)) (tFor (iSeq K (tOp (rAddX K) (tVar 9) (tLc (iRng1 (tCons (tC (.int 10)) tNil)) (gName 13) tYes (tCall (sp__law_any_walk K a) [] E0 (tCons (tVar 3) (tCons (tVar 4) tNil))) [13]))) (gName 10) (tSeq (tAsg (tCB (rReprD K) (tCons (tVar 5) tNil)) (gName 11)) (tSeq (tAsg (tLst (tCons (tCall (sp_is_possible_with K a) [] E0 (tCons (tVar 6) (tCons (tVar 7) (tCons (tVar 5) (tCons (tVar 10) tNil))))) tNil)) (gName 12)) (tSeq (tDrop (tBM K "list" rAppend (tVar 12) (tCons (tCallN 0 4 (sp_is_possible_with K a) (pmV [3, 2, 1, 0]) E0 tNil (tCons (tVar 10) (tCons (tCB (rTupX K) (tCons (tRevX K (tVar 5)) tNil)) (tCons (tVar 7) (tCons (tVar 6) tNil))))) tNil))) (tIfS (tOr (tTest (tOp (rNeP K) (tCB (rReprD K) (tCons (tVar 12) tNil)) (tCB (rReprD K) (tCons (tOp (rMulX) (tLst (tCons (tOp (rInX K) (tVar 10) (tVar 8)) tNil)) (tC (.int 2))) tNil)))) (tTest (tOp (rNeP K) (tCB (rReprD K) (tCons (tVar 5) tNil)) (tVar 11)))) (tRet (tC (.bl false))) tNext)))))))))))) (tRet (tC (.bl true))))
abbrev sp_law [Wld] (K : PySem.W.Frag) (a : Ad) : Sp := spLaw K
structure CellOk (mo : Mo) (tw : List Str) (l : Str) (ws : List (List (Option Str))) : Prop where
  ok : MoOk mo
  tok : TwOk mo.u.ns tw
  hl : l ∈ mo.u.fl
  mem : ∀ w, w ∈ ws ↔ Shown mo.u tw l 6 w
  nd : ws.Nodup
  len : ws.length ≤ 300
def CellG (a : Ad) (mo : Mo) (tw : List Str) (l : Str) (ws : List (List (Option Str))) (s0 s1 s2 s9 s10 s11 s12 s13 : Sl) : Gm := [s0, s1, s2, .val .st, .val (moD mo), .val (strsL tw), .val (updD a mo.u.sort), .val (.str l), .val (.dN (setN wkK ws)), s9, s10, s11, s12, s13]
/-- a list of walks -/
def Wks (mo : Mo) (k : Nat) (d : D) : Prop := ∃ ws : List (List (Option Str)), d = .lst (ws.map walkD) ∧ ws.length ≤ k ∧ ∀ w ∈ ws, Wk6 mo w
theorem wks_of {mo : Mo} {k : Nat} {l : List D} (h : ∀ y ∈ l, ∃ w, y = walkD w ∧ Wk6 mo w) (hl : l.length ≤ k) : Wks mo k (.lst l) := by
  obtain ⟨ws, e, el, h2⟩ := list_wk h
  exact ⟨ws, by rw [e], by omega, h2⟩
theorem wks_add {mo : Mo} {k j : Nat} {n1 n2 : Nat} (h1 : DF K ta Γ n1 (Wks mo k)) (h2 : DF K tb Γ n2 (Wks mo j)) (hk : k + j ≤ 100000) : DF K (tOp (rAddX K) ta tb) Γ (n1 + n2) (Wks mo (k + j)) :=
  (w_op ok_addL h1.r h2.r fun x y ⟨es, e1, l1, o1⟩ ⟨fs, e2, l2, o2⟩ => ⟨.lst ((es ++ fs).map walkD), by
    rw [e1, e2]
    show (if (es.map walkD).length + (fs.map walkD).length ≤ sizeLine then some (D.lst (es.map walkD ++ fs.map walkD)) else none) = _
    rw [if_pos (by rw [List.length_map, List.length_map, sizeLine_eq]; omega), List.map_append], es ++ fs, rfl, by rw [List.length_append]; omega, fun w hw => (List.mem_append.mp hw).elim (o1 w) (o2 w)⟩).f
theorem wks_map {mo : Mo} {k j : Nat} {wi : TI} {g : TG} {is vs : List Nat} {PL : List D → Prop} (hi : DI K wi Γ n PL) (hlen : ∀ ds, PL ds → ds.length ≤ k) (hk : k ≤ 1000) (hsub : ∀ i ∈ is, i ∈ vs)
    (hs : ∀ (ds : List D) (i : Nat) (d : D), PL ds → ds[i]? = some d → ∃ Γ', DG K g is d (wipeG Γ vs) Γ' ∧ DF K te Γ' j (fun e => ∃ w, e = walkD w ∧ Wk6 mo w)) : DF K (tLc wi g tYes te vs) Γ (n + k * j) (Wks mo k) :=
  (w_map (L := k) (R := fun _ e => ∃ w, e = walkD w ∧ Wk6 mo w) hi hlen (by omega) hsub hs).f.imp fun d ⟨ds, es, pl, e, al⟩ => by
    obtain ⟨h1, h2⟩ := alls_mem al
    subst e
    exact wks_of h2 (by have := hlen ds pl; omega)
abbrev tCell (K : PySem.W.Frag) (a : Ad) : TS :=
  (tSeq (tAsg (tCB (rReprD K) (tCons (tVar 5) tNil)) (gName 11)) (tSeq (tAsg (tLst (tCons (tCall (sp_is_possible_with K a) [] E0 (tCons (tVar 6) (tCons (tVar 7) (tCons (tVar 5) (tCons (tVar 10) tNil))))) tNil)) (gName 12)) (tSeq (tDrop (tBM K "list" rAppend (tVar 12) (tCons (tCallN 0 4 (sp_is_possible_with K a) (pmV [3, 2, 1, 0]) E0 tNil (tCons (tVar 10) (tCons (tCB (rTupX K) (tCons (tRevX K (tVar 5)) tNil)) (tCons (tVar 7) (tCons (tVar 6) tNil))))) tNil))) (tIfS (tOr (tTest (tOp (rNeP K) (tCB (rReprD K) (tCons (tVar 12) tNil)) (tCB (rReprD K) (tCons (tOp (rMulX) (tLst (tCons (tOp (rInX K) (tVar 10) (tVar 8)) tNil)) (tC (.int 2))) tNil)))) (tTest (tOp (rNeP K) (tCB (rReprD K) (tCons (tVar 5) tNil)) (tVar 11)))) (tRet (tC (.bl false))) tNext))))
theorem law_cell {mo : Mo} {tw : List Str} {l : Str} {ws : List (List (Option Str))} {w : List (Option Str)} (co : CellOk mo tw l ws) (hw : Wk6 mo w) {s0 s1 s2 s9 s11 s12 s13 : Sl}
    (hR : ∀ s11 s12, R.nx (CellG a mo tw l ws s0 s1 s2 s9 (.val (walkD w)) s11 s12 s13) m) :
    DS K (tCell K a) (CellG a mo tw l ws s0 s1 s2 s9 (.val (walkD w)) s11 s12 s13) m R := by
  unfold CellG tCell
  have ask : ∀ {tv : List Str}, TwOk mo.u.ns tv → AskOk mo.u.sort l tv w := fun h => ask_of co.ok co.hl h hw.1
  have rtw : RepOk (strsL tw) := repOk_strs (fun s hs => co.ok.net.ok s (List.mem_append_left _ (co.tok.sub s hs))) co.tok.le
  have twr : TwOk mo.u.ns tw.reverse := ⟨fun s hs => co.tok.sub s (List.mem_reverse.mp hs), (List.reverse_perm tw).nodup_iff.mpr co.tok.nd, by rw [List.length_reverse]; exact co.tok.le⟩
  have eb : (memW mo.u.sort tw l w).isSome = decide (w ∈ ws) := by
    rw [mem_sort]
    have h1 := co.mem w
    have h2 := shown_iff (l := l) (tw := tw) (k := 6) (show AskOk mo.u l tw w from ⟨co.ok.net, co.hl, co.tok, hw.1⟩) hw.2
    rw [h2] at h1
    cases q : (memW mo.u tw l w).isSome with
    | true => exact (decide_eq_true (h1.mpr q)).symm
    | false => exact (decide_eq_false fun h => by rw [h1.mp h] at q; cases q).symm
  refine s_seq (es_set (e_reprD (f_var rfl).r rtw) ?_)
  refine s_seq (es_setW (ew_lst (ea_cons (d := .bl (decide (w ∈ ws))) ((e_call (n := 0) (P := (· = .bl (memW mo.u.sort tw l w).isSome)) (ea_cons (f_var rfl) (ea_cons (f_var rfl) (ea_cons (f_var rfl) (ea_cons (f_var rfl) a_nil)))) ⟨mo.u.sort, l, strsL tw, tw, w, rfl, rfl, ask co.tok, rfl⟩).cast (by rw [eb])) a_nil) (by show 1 ≤ 1000; omega)) ?_)
  refine s_seq (es_app (xs := [.bl (decide (w ∈ ws))]) (d := .bl (decide (w ∈ ws))) rfl (by show 1 < _; omega) ((e_callN (n := 0) (C := C_is_possible_with a) (P := (· = .bl (memW mo.u.sort tw.reverse l w).isSome)) (ds := [walkD w, strsT tw.reverse, .str l, updD a mo.u.sort]) (ea_cons (f_var rfl) (ea_cons (e_cb ok_tup (ew_rev (f_var (d := strsL tw) rfl).r).f.r (by show some (D.tup ((tw.map .str).reverse)) = _; rw [← List.map_reverse]; rfl)) (ea_cons (f_var rfl) (ea_cons (f_var rfl) a_nil)))) rfl ⟨mo.u.sort, l, strsT tw.reverse, tw.reverse, w, rfl, rfl, ask twr, rfl⟩).cast (by rw [mem_rev, eb])) ?_)
  refine es_if (b := false) ((e_or (b := false) (c := false) (e_test (e_op ok_ne (e_reprD (r_var rfl) (repOk_bls _ _)).r (e_reprD (e_op ok_mul (z := .lst [.bl (decide (w ∈ ws)), .bl (decide (w ∈ ws))]) (ew_lst (ea_cons (d := .bl (decide (w ∈ ws))) (e_op ok_in (f_var rfl).r (f_var rfl).r ?_) a_nil) (by show 1 ≤ 1000; omega)).f.r c_int.r ?_).r (repOk_bls _ _)).r ?_)) fun _ => e_test (e_op ok_ne (e_reprD (f_var rfl).r rtw).r (f_var rfl).r ?_)).cast rfl) (fun h => nomatch h) fun _ => s_next (hR _ _)
  · show blF ((tkey (walkD w)).map fun k => (valD (setN wkK ws) k).isSome) = _
    rw [tk_wk]
    show blF (some (valD (setN wkK ws) (wkK w)).isSome) = _
    rw [wk_val]; rfl
  · show (if (0 : Int) ≤ 2 ∧ (2 : Int) < 1000000 ∧ 1 * (2 : Int).toNat ≤ sizeLine then some (D.lst (List.replicate (2 : Int).toNat [D.bl (decide (w ∈ ws))]).flatten) else none) = _
    rw [if_pos (by rw [sizeLine_eq]; decide)]; rfl
  · show blF (notO (eqF (.str _) (.str _))) = _
    rw [eqF_str, decide_eq_true rfl]; rfl
  · show blF (notO (eqF (.str _) (.str _))) = _
    rw [eqF_str, decide_eq_true rfl]; rfl
theorem bd_law (T : Tc K a) : ∀ {vs H Q E}, sp_law K a vs H Q E → t_law K a { nx := fun _ H' => Q .non H', rt := Q } (L2.start N_law vs) H := by
  rintro vs H Q E ⟨p, ns, rfl, hp, _, hQ⟩
  unfold t_law
  refine law_cells (K := K) (c := 3) hp (by decide) (fun i => 4000 * (3 - i)) (fun Γ => ∃ s0 s1 s2 s3 s4 s5 s6 s7 s8 s9 s10 s11 s12 s13, Γ = [s0, s1, s2, s3, s4, s5, s6, s7, s8, s9, s10, s11, s12, s13]) ⟨_, _, _, _, _, _, _, _, _, _, _, _, _, _, rfl⟩ (by omega) (fun i hi => by omega) ?_ hQ
  rintro i cell Γ' hi ⟨s0, s1, s2, s3, s4, s5, s6, s7, s8, s9, s10, s11, s12, s13, rfl⟩
  refine ⟨_, _, g_tup (gs_cons g_name (gs_cons g_name gs_nil)), s_less (m' := 4000 * (3 - (i + 1)) + 70 + 60 + 300 + 1 + 2801) (by omega) (s_seq (s_begin (ea_cons (f_var rfl) (ea_cons (f_var (d := .int (i : Nat)) rfl) a_nil)) (by unfold most; omega) ?_ ?_))⟩
  · have h1 : (977 : Int).natAbs.log2 < 500000 := by decide +kernel
    have h2 : ((i : Nat) : Int).natAbs.log2 < 500000 := by
      match i, hi with
      | 0, _ | 1, _ | 2, _ => decide +kernel
    omega
  refine s_seq (s_tgt (n := 2801) (e_call (n := 2801) (ea_cons (f_var rfl) (ea_cons c_int (ea_cons c_int a_nil))) ⟨4, 2, rfl, by omega, by omega, by omega, by omega, rfl⟩) fun d ⟨mo, tw, e, ok, tok, n4, f2⟩ => ?_)
  subst e
  refine ⟨_, _, g_lst (gs_cons g_name (gs_cons g_name gs_nil)), ?_⟩
  have f1 := ok.fl.f1
  have f3 := ok.fl.f3
  refine s_seq (s_par (n1 := 0) (n2 := 1) (e_call (n := 0) (ea_cons (f_var rfl) a_nil) ⟨mo, rfl, ok, rfl⟩).v (e_call (n := 1) (P := (· ∈ mo.u.fl.map D.str)) (ea_cons (f_var rfl) (ea_cons (ew_cb ok_list (e_op ok_ix (f_var rfl).r c_str.r (mo_flows mo)).r (z := .lst (mo.u.fl.map .str)) (by show some (D.lst ((flK mo).map fun kv => kD kv.1)) = _; rw [flK_keys])).f a_nil)) ⟨.lst (mo.u.fl.map .str), mo.u.fl.map .str, rfl, rfl, fun e => by rw [List.map_eq_nil_iff.mp e] at f1; exact absurd f1 (by decide), by rw [List.length_map]; omega, rfl⟩).v fun sa sb ⟨d1, e1, p1⟩ ⟨d2, e2, p2⟩ => ?_)
  obtain ⟨l, hl, p2⟩ := List.mem_map.mp p2
  subst e1; subst e2; subst p1; subst p2
  refine s_seq (s_set (n := 0) (P := fun d => ∃ ws, d = .dN (setN wkK ws) ∧ ws.Nodup ∧ ∀ w, w ∈ ws ↔ Shown mo.u tw l 6 w) (e_call (n := 0) (ea_cons (f_var rfl) (ea_cons (f_var rfl) (ea_cons (f_var rfl) (ea_cons c_int a_nil)))) ⟨mo, strsL tw, tw, l, rfl, rfl, ok.arg hl, ok.net, rfl⟩) fun d ⟨ws, e, nd, mem⟩ => ?_)
  subst e
  have len : ws.length ≤ 300 := by
    have h3 := nodup_len nd fun w hw => Shown.cw ((mem w).mp hw)
    have h4 := CW_len mo.u l 6
    have h5 : mo.u.ns.length * (2 ^ 6 - 1) ≤ 4 * 63 := Nat.mul_le_mul n4 (by decide)
    omega
  have co : CellOk mo tw l ws := ⟨ok, tok, hl, mem, nd, len⟩
  have wk6 : ∀ w ∈ ws, Wk6 mo w := fun w hw => Shown.wk ok hl ((mem w).mp hw)
  refine s_seq (s_set (n := 300) (P := Wks mo 30) ((w_sl (n1 := 300) (n2 := 0) (n3 := 0) (Pl := (· = none)) (Ph := (· = some 30)) (P1 := fun d => ∃ l', d = .lst l' ∧ l'.Perm (ws.map walkD)) (e_call (n := 300) (ea_cons (f_var rfl) (ea_cons (ew_cb ok_list (f_var (d := .dN (setN wkK ws)) rfl).r (z := .lst (ws.map walkD)) ?_).f a_nil)) ⟨.lst (ws.map walkD), ws.map walkD, rfl, rfl, by rw [List.length_map]; exact len, fun y hy => (List.mem_map.mp hy).elim fun w h => h.2 ▸ plain_mapT (fun h => plain_flat (flat_hop h)) w, rfl⟩).r o_none (eo_some c_int) fun x lo hi ⟨l', e, pm⟩ e2 e3 => ⟨l', e, ?_⟩).f) fun d hd => ?_)
  · show some (D.lst ((setN wkK ws).map fun kv => nkD kv.1)) = _
    unfold setN
    rw [List.map_map]
    congr 2
    exact List.map_congr_left fun w _ => nk_wk w
  · rw [e2, e3, show (30 : Int) = ((30 : Nat) : Int) from rfl, cut_to]
    refine wks_of (fun y hy => ?_) (by rw [List.length_take]; omega)
    obtain ⟨w, hw, rfl⟩ := List.mem_map.mp (pm.mem_iff.mp (List.mem_of_mem_take hy))
    exact ⟨w, rfl, wk6 w hw⟩
  refine s_seq (s_set (n := 0 + (0 + 30 * 2)) (P := Wks mo (30 + 30)) (wks_add (n1 := 0) (n2 := 0 + 30 * 2) ((f_var rfl).imp fun d' e => by rw [e]; exact hd) (wks_map (k := 30) (j := 2) (PL := fun ds => ∃ ws : List (List (Option Str)), ds = ws.map walkD ∧ ws.length ≤ 30 ∧ ∀ w ∈ ws, Wk6 mo w) (is := [10]) (i_lP (f_var rfl) fun d' e => ?_) (fun ds ⟨ws, e, h, _⟩ => by rw [e, List.length_map]; exact h) (by omega) (by simp) fun ds j d' ⟨ws, e, h, o⟩ hj => ?_) (by omega)) fun d hd => ?_)
  · subst e
    obtain ⟨ws, e, h, o⟩ := hd
    exact ⟨_, e, ws, rfl, h, o⟩
  · subst e
    obtain ⟨w, hw, rfl⟩ := List.mem_map.mp (List.mem_of_getElem? hj)
    exact ⟨_, g_name, e_call (n := 2) (ea_cons (f_var rfl) (ea_cons (f_var rfl) (ea_cons (f_var rfl) a_nil))) ⟨mo, w, rfl, ok.net, o w hw, rfl⟩⟩
  refine s_for (n := 0 + (0 + 10 * 7)) (PL := fun ds => ∃ ws : List (List (Option Str)), ds = ws.map walkD ∧ ws.length ≤ 60 + 10 ∧ ∀ w ∈ ws, Wk6 mo w) (fun ds i' Γ m' => 4000 * (3 - (i + 1)) ≤ m' ∧ ∃ s0 s1 s2 s9 s10 s11 s12 s13, Γ = CellG a mo tw l ws s0 s1 s2 s9 s10 s11 s12 s13) (i_lP (wks_add (k := 60) (j := 10) (n1 := 0) (n2 := 0 + 10 * 7) ((f_var rfl).imp fun d' e => by rw [e]; exact hd) (wks_map (k := 10) (j := 7) (PL := fun ds => ds.length = 10) (is := [13]) (i_r1 c_int fun d e => ⟨10, e, by omega, by omega, by rw [rngD_len]; rfl⟩) (fun ds h => by omega) (by omega) (by simp) fun ds j d' h hj => ⟨_, g_name, e_call (n := 7) (ea_cons (f_var rfl) (ea_cons (f_var rfl) a_nil)) ⟨mo, rfl, ok.net, rfl⟩⟩) (by omega)) fun d ⟨ws, e, h, o⟩ => ⟨_, e, ws, rfl, h, o⟩) (fun ds _ => ⟨by omega, _, _, _, _, _, _, _, _, rfl⟩) ?_ ?_
  · rintro ds j d Γ' m' ⟨ws', e, _, o⟩ hd ⟨hm, s0, s1, s2, s9, s10, s11, s12, s13, rfl⟩
    subst e
    obtain ⟨w, hw, rfl⟩ := List.mem_map.mp (List.mem_of_getElem? hd)
    exact ⟨_, _, g_name, law_cell co (o w hw) fun s11 s12 => ⟨hm, _, _, _, _, _, _, _, _, rfl⟩⟩
  · rintro ds Γ' m' _ ⟨hm, s0, s1, s2, s9, s10, s11, s12, s13, rfl⟩
    exact ⟨hm, _, _, _, _, _, _, _, _, _, _, _, _, _, _, rfl⟩
end
end DL
set_option Elab.async false
set_option linter.all false
set_option maxRecDepth 100000
set_option maxHeartbeats 4000000
namespace DL
open PySem L2
def top (i : Nat) : Stmt := PySem.Challenge.pw_wayturns_k81_walks_with_doubles_by_all_r.main.body.getD i (.Pass ⟨0, 0, 0, 0⟩)
abbrev s__law_begin : Stmt := (top 46)
abbrev s__law_draw : Stmt := (top 47)
abbrev s__law_pick : Stmt := (top 48)
abbrev s__law_names : Stmt := (top 49)
abbrev s__law_mixed : Stmt := (top 50)
abbrev s__law_hop : Stmt := (top 51)
abbrev s__law_flow : Stmt := (top 52)
abbrev s__law_model : Stmt := (top 53)
abbrev s__law_shape : Stmt := (top 55)
abbrev s_is_name : Stmt := (top 16)
abbrev s_Network___init__ : Stmt := (inClass (top 17) 0)
abbrev s_Network_nodes : Stmt := (inClass (top 17) 1)
abbrev s_is_node : Stmt := (top 18)
abbrev s_Network_exits : Stmt := (inClass (top 17) 2)
abbrev s_is_exit : Stmt := (top 19)
abbrev s_is_hop : Stmt := (top 20)
abbrev s_Table___init__ : Stmt := (inClass (top 21) 0)
abbrev s_Table_network : Stmt := (inClass (top 21) 1)
abbrev s_Network___eq__ : Stmt := (inClass (top 17) 3)
abbrev s_need_flows : Stmt := (top 29)
abbrev s_Update___init__ : Stmt := (inClass (top 30) 0)
abbrev s__law_update : Stmt := (top 54)
abbrev s__law_grown : Stmt := (top 57)
abbrev s__law_read : Stmt := (top 56)
abbrev s__law_all_shown : Stmt := (top 58)
abbrev s__law_bent_walk : Stmt := (top 59)
abbrev s__law_any_walk : Stmt := (top 60)
abbrev s_Update_flows : Stmt := (inClass (top 30) 2)
abbrev s_need_flow : Stmt := (top 31)
abbrev s_Update_network : Stmt := (inClass (top 30) 1)
abbrev s_need_doubles : Stmt := (top 40)
abbrev s_is_walk : Stmt := (top 34)
abbrev s_need_walk : Stmt := (top 35)
abbrev s_need_all : Stmt := (top 43)
abbrev s_Update_old : Stmt := (inClass (top 30) 3)
abbrev s_Table___getitem__ : Stmt := (inClass (top 21) 2)
abbrev s_Plan_step_of : Stmt := (inClass (top 26) 4)
abbrev s_Update_new : Stmt := (inClass (top 30) 4)
abbrev s_word_of : Stmt := (top 36)
abbrev s_seen_words : Stmt := (top 37)
abbrev s_need_steps : Stmt := (top 24)
abbrev s_need_waits : Stmt := (top 25)
abbrev s_Plan___init__ : Stmt := (inClass (top 26) 0)
abbrev s_whole_plan : Stmt := (top 39)
abbrev s_stamped : Stmt := (top 41)
abbrev s_memory_behind : Stmt := (top 42)
abbrev s_is_possible_with : Stmt := (top 44)
abbrev s_law : Stmt := (top 61)
structure Bd where
  _law_begin : Addr
  d__law_begin : FuncData
  _law_draw : Addr
  d__law_draw : FuncData
  _law_pick : Addr
  d__law_pick : FuncData
  _law_names : Addr
  d__law_names : FuncData
  _law_mixed : Addr
  d__law_mixed : FuncData
  _law_hop : Addr
  d__law_hop : FuncData
  _law_flow : Addr
  d__law_flow : FuncData
  _law_model : Addr
  d__law_model : FuncData
  _law_shape : Addr
  d__law_shape : FuncData
  is_name : Addr
  d_is_name : FuncData
  Network___init__ : Addr
  d_Network___init__ : FuncData
  Network_nodes : Addr
  d_Network_nodes : FuncData
  is_node : Addr
  d_is_node : FuncData
  Network_exits : Addr
  d_Network_exits : FuncData
  is_exit : Addr
  d_is_exit : FuncData
  is_hop : Addr
  d_is_hop : FuncData
  Table___init__ : Addr
  d_Table___init__ : FuncData
  Table_network : Addr
  d_Table_network : FuncData
  Network___eq__ : Addr
  d_Network___eq__ : FuncData
  need_flows : Addr
  d_need_flows : FuncData
  Update___init__ : Addr
  d_Update___init__ : FuncData
  _law_update : Addr
  d__law_update : FuncData
  _law_grown : Addr
  d__law_grown : FuncData
  _law_read : Addr
  d__law_read : FuncData
  _law_all_shown : Addr
  d__law_all_shown : FuncData
  _law_bent_walk : Addr
  d__law_bent_walk : FuncData
  _law_any_walk : Addr
  d__law_any_walk : FuncData
  Update_flows : Addr
  d_Update_flows : FuncData
  need_flow : Addr
  d_need_flow : FuncData
  Update_network : Addr
  d_Update_network : FuncData
  need_doubles : Addr
  d_need_doubles : FuncData
  is_walk : Addr
  d_is_walk : FuncData
  need_walk : Addr
  d_need_walk : FuncData
  need_all : Addr
  d_need_all : FuncData
  Update_old : Addr
  d_Update_old : FuncData
  Table___getitem__ : Addr
  d_Table___getitem__ : FuncData
  Plan_step_of : Addr
  d_Plan_step_of : FuncData
  Update_new : Addr
  d_Update_new : FuncData
  word_of : Addr
  d_word_of : FuncData
  seen_words : Addr
  d_seen_words : FuncData
  need_steps : Addr
  d_need_steps : FuncData
  need_waits : Addr
  d_need_waits : FuncData
  Plan___init__ : Addr
  d_Plan___init__ : FuncData
  whole_plan : Addr
  d_whole_plan : FuncData
  stamped : Addr
  d_stamped : FuncData
  memory_behind : Addr
  d_memory_behind : FuncData
  is_possible_with : Addr
  d_is_possible_with : FuncData
  law : Addr
  d_law : FuncData
  v_noWaits : Value
structure Tx (K : PySem.W.Frag) (mg : Str → Option Value) (a : Ad) (b : Bd) : Prop where
  tc : Tc K a
  b_bool : mg "bool" = none
  b_dict : mg "dict" = none
  b_enumerate : mg "enumerate" = none
  b_int : mg "int" = none
  b_isinstance : mg "isinstance" = none
  b_len : mg "len" = none
  b_list : mg "list" = none
  b_max : mg "max" = none
  b_range : mg "range" = none
  b_repr : mg "repr" = none
  b_sorted : mg "sorted" = none
  b_str : mg "str" = none
  b_tuple : mg "tuple" = none
  b_zip : mg "zip" = none
  f__law_all_shown : mg "_law_all_shown" = some (.ref b._law_all_shown)
  f__law_any_walk : mg "_law_any_walk" = some (.ref b._law_any_walk)
  f__law_begin : mg "_law_begin" = some (.ref b._law_begin)
  f__law_bent_walk : mg "_law_bent_walk" = some (.ref b._law_bent_walk)
  f__law_draw : mg "_law_draw" = some (.ref b._law_draw)
  f__law_flow : mg "_law_flow" = some (.ref b._law_flow)
  f__law_grown : mg "_law_grown" = some (.ref b._law_grown)
  f__law_hop : mg "_law_hop" = some (.ref b._law_hop)
  f__law_mixed : mg "_law_mixed" = some (.ref b._law_mixed)
  f__law_model : mg "_law_model" = some (.ref b._law_model)
  f__law_names : mg "_law_names" = some (.ref b._law_names)
  f__law_pick : mg "_law_pick" = some (.ref b._law_pick)
  f__law_read : mg "_law_read" = some (.ref b._law_read)
  f__law_shape : mg "_law_shape" = some (.ref b._law_shape)
  f__law_update : mg "_law_update" = some (.ref b._law_update)
  f_is_exit : mg "is_exit" = some (.ref b.is_exit)
  f_is_hop : mg "is_hop" = some (.ref b.is_hop)
  f_is_name : mg "is_name" = some (.ref b.is_name)
  f_is_node : mg "is_node" = some (.ref b.is_node)
  f_is_possible_with : mg "is_possible_with" = some (.ref b.is_possible_with)
  f_is_walk : mg "is_walk" = some (.ref b.is_walk)
  f_memory_behind : mg "memory_behind" = some (.ref b.memory_behind)
  f_need_all : mg "need_all" = some (.ref b.need_all)
  f_need_doubles : mg "need_doubles" = some (.ref b.need_doubles)
  f_need_flow : mg "need_flow" = some (.ref b.need_flow)
  f_need_flows : mg "need_flows" = some (.ref b.need_flows)
  f_need_steps : mg "need_steps" = some (.ref b.need_steps)
  f_need_waits : mg "need_waits" = some (.ref b.need_waits)
  f_need_walk : mg "need_walk" = some (.ref b.need_walk)
  f_seen_words : mg "seen_words" = some (.ref b.seen_words)
  f_stamped : mg "stamped" = some (.ref b.stamped)
  f_whole_plan : mg "whole_plan" = some (.ref b.whole_plan)
  f_word_of : mg "word_of" = some (.ref b.word_of)
  g_LETTERS : ∃ t, mg "LETTERS" = some (.str "abcdefghijklmnopqrstuvwxyz" t)
  g_MOST_EXITS : ∃ t, mg "MOST_EXITS" = some (.int 3 t)
  g_MOST_FLOWS : ∃ t, mg "MOST_FLOWS" = some (.int 3 t)
  g_MOST_ITEMS : ∃ t, mg "MOST_ITEMS" = some (.int 400 t)
  g_MOST_NODES : ∃ t, mg "MOST_NODES" = some (.int 8 t)
  g_MOST_SIGNS : ∃ t, mg "MOST_SIGNS" = some (.int 6 t)
  kb_is_possible_with_3210 : KBn K b.d_is_possible_with ["update", "flow", "doubles", "walk"] 0 ["walk", "doubles", "flow", "update"] (pmW [3, 2, 1, 0]) (pmV [3, 2, 1, 0])
  m_Network : mg "Network" = some (.ref a.Network)
  m_Plan : mg "Plan" = some (.ref a.Plan)
  m_Table : mg "Table" = some (.ref a.Table)
  m_Update : mg "Update" = some (.ref a.Update)
  me_Plan_step_of : Meth K a.Plan "step_of" b.Plan_step_of
  me_Update_new : Meth K a.Update "new" b.Update_new
  me_Update_old : Meth K a.Update "old" b.Update_old
  eq_Network : PySem.W.findIn K (.ref a.Network) "__eq__" = some (some (.ref b.Network___eq__))
  eqf_Network : PySem.W.isFn K (.ref b.Network___eq__) = true
  ne_Network : PySem.W.findIn K (.ref a.Network) "__ne__" = some (some (.builtin "object.__ne__"))
  ob_Network : PySem.W.subIn K (.ref a.Network) (.type "object") = some true
  pr_Network_exits : ∃ p, PropOf K a.Network "exits" p b.Network_exits
  pr_Network_nodes : ∃ p, PropOf K a.Network "nodes" p b.Network_nodes
  pr_Table_network : ∃ p, PropOf K a.Table "network" p b.Table_network
  pr_Update_flows : ∃ p, PropOf K a.Update "flows" p b.Update_flows
  pr_Update_network : ∃ p, PropOf K a.Update "network" p b.Update_network
  d__law_begin : Df K "_law_begin" "_law_begin" s__law_begin b._law_begin b.d__law_begin ["cell", "turn"]
  d__law_draw : Df K "_law_draw" "_law_draw" s__law_draw b._law_draw b.d__law_draw ["state", "size"]
  d__law_pick : Df K "_law_pick" "_law_pick" s__law_pick b._law_pick b.d__law_pick ["state", "some"]
  d__law_names : Df K "_law_names" "_law_names" s__law_names b._law_names b.d__law_names ["state", "many"]
  d__law_mixed : Df K "_law_mixed" "_law_mixed" s__law_mixed b._law_mixed b.d__law_mixed ["state", "some"]
  d__law_hop : Df K "_law_hop" "_law_hop" s__law_hop b._law_hop b.d__law_hop ["state", "later", "every"]
  d__law_flow : Df K "_law_flow" "_law_flow" s__law_flow b._law_flow b.d__law_flow ["state", "nodes", "exits"]
  d__law_model : Df K "_law_model" "_law_model" s__law_model b._law_model b.d__law_model ["state", "most", "flows"]
  d__law_shape : Df K "_law_shape" "_law_shape" s__law_shape b._law_shape b.d__law_shape ["state", "most", "flows"]
  d_is_name : Df K "is_name" "is_name" s_is_name b.is_name b.d_is_name ["value"]
  k_Network : Mk K a.Network b.Network___init__
  d_Network___init__ : Df K "__init__" "Network.__init__" s_Network___init__ b.Network___init__ b.d_Network___init__ ["self", "nodes", "exits"]
  d_Network_nodes : Df K "nodes" "Network.nodes" s_Network_nodes b.Network_nodes b.d_Network_nodes ["self"]
  d_is_node : Df K "is_node" "is_node" s_is_node b.is_node b.d_is_node ["network", "value"]
  d_Network_exits : Df K "exits" "Network.exits" s_Network_exits b.Network_exits b.d_Network_exits ["self"]
  d_is_exit : Df K "is_exit" "is_exit" s_is_exit b.is_exit b.d_is_exit ["network", "value"]
  d_is_hop : Df K "is_hop" "is_hop" s_is_hop b.is_hop b.d_is_hop ["network", "value"]
  k_Table : Mk K a.Table b.Table___init__
  d_Table___init__ : Df K "__init__" "Table.__init__" s_Table___init__ b.Table___init__ b.d_Table___init__ ["self", "network", "hops"]
  d_Table_network : Df K "network" "Table.network" s_Table_network b.Table_network b.d_Table_network ["self"]
  d_Network___eq__ : Df K "__eq__" "Network.__eq__" s_Network___eq__ b.Network___eq__ b.d_Network___eq__ ["self", "other"]
  d_need_flows : Df K "need_flows" "need_flows" s_need_flows b.need_flows b.d_need_flows ["network", "flows"]
  k_Update : Mk K a.Update b.Update___init__
  d_Update___init__ : Df K "__init__" "Update.__init__" s_Update___init__ b.Update___init__ b.d_Update___init__ ["self", "network", "flows"]
  d__law_update : Df K "_law_update" "_law_update" s__law_update b._law_update b.d__law_update ["model"]
  d__law_grown : Df K "_law_grown" "_law_grown" s__law_grown b._law_grown b.d__law_grown ["model", "twins", "done"]
  d__law_read : Df K "_law_read" "_law_read" s__law_read b._law_read b.d__law_read ["model", "twins", "lane", "node", "done", "stamp"]
  d__law_all_shown : Df K "_law_all_shown" "_law_all_shown" s__law_all_shown b._law_all_shown b.d__law_all_shown ["model", "twins", "lane", "most"]
  d__law_bent_walk : Df K "_law_bent_walk" "_law_bent_walk" s__law_bent_walk b._law_bent_walk b.d__law_bent_walk ["state", "model", "walk"]
  d__law_any_walk : Df K "_law_any_walk" "_law_any_walk" s__law_any_walk b._law_any_walk b.d__law_any_walk ["state", "model"]
  d_Update_flows : Df K "flows" "Update.flows" s_Update_flows b.Update_flows b.d_Update_flows ["self"]
  d_need_flow : Df K "need_flow" "need_flow" s_need_flow b.need_flow b.d_need_flow ["update", "flow"]
  d_Update_network : Df K "network" "Update.network" s_Update_network b.Update_network b.d_Update_network ["self"]
  d_need_doubles : Df K "need_doubles" "need_doubles" s_need_doubles b.need_doubles b.d_need_doubles ["update", "doubles"]
  d_is_walk : Df K "is_walk" "is_walk" s_is_walk b.is_walk b.d_is_walk ["network", "value"]
  d_need_walk : Df K "need_walk" "need_walk" s_need_walk b.need_walk b.d_need_walk ["update", "walk"]
  d_need_all : Df K "need_all" "need_all" s_need_all b.need_all b.d_need_all ["update", "flow", "doubles", "walk"]
  d_Update_old : Df K "old" "Update.old" s_Update_old b.Update_old b.d_Update_old ["self", "flow"]
  ge_Table : GetOf K a.Table b.Table___getitem__
  d_Table___getitem__ : Df K "__getitem__" "Table.__getitem__" s_Table___getitem__ b.Table___getitem__ b.d_Table___getitem__ ["self", "node"]
  d_Plan_step_of : Df K "step_of" "Plan.step_of" s_Plan_step_of b.Plan_step_of b.d_Plan_step_of ["self", "node"]
  d_Update_new : Df K "new" "Update.new" s_Update_new b.Update_new b.d_Update_new ["self", "flow"]
  d_word_of : Df K "word_of" "word_of" s_word_of b.word_of b.d_word_of ["update", "flow", "plan", "node", "hop"]
  d_seen_words : Df K "seen_words" "seen_words" s_seen_words b.seen_words b.d_seen_words ["update", "flow", "plan", "walk"]
  d_need_steps : Df K "need_steps" "need_steps" s_need_steps b.need_steps b.d_need_steps ["steps"]
  d_need_waits : Df K "need_waits" "need_waits" s_need_waits b.need_waits b.d_need_waits ["many", "waits"]
  k_Plan : Mk K a.Plan b.Plan___init__
  bd_Plan : Vals [.ref a.noWaits] [b.v_noWaits] ∧ Binds K b.d_Plan___init__ ["self", "steps", "waits"] [b.v_noWaits]
  d_Plan___init__ : Fun K "__init__" "Plan.__init__" s_Plan___init__ b.Plan___init__ b.d_Plan___init__
  d_whole_plan : Df K "whole_plan" "whole_plan" s_whole_plan b.whole_plan b.d_whole_plan ["update"]
  d_stamped : Df K "stamped" "stamped" s_stamped b.stamped b.d_stamped ["doubles", "memory", "word", "node"]
  d_memory_behind : Df K "memory_behind" "memory_behind" s_memory_behind b.memory_behind b.d_memory_behind ["update", "flow", "doubles", "walk"]
  d_is_possible_with : Df K "is_possible_with" "is_possible_with" s_is_possible_with b.is_possible_with b.d_is_possible_with ["update", "flow", "doubles", "walk"]
  d_law : Df K "law" "law" s_law b.law b.d_law ["script"]
theorem sc__law_begin : FnScope N__law_begin ["cell", "turn"] (defScope s__law_begin) := ⟨rfl, rfl, rfl, by decide +kernel, rfl, by decide +kernel, by decide +kernel⟩
theorem dv__law_begin {P : Program} {w : World} {K : PySem.W.Frag} {mg : Str → Option Value} {base : Heap} {a : Ad} {b : Bd} (T : Tx K mg a b)  {A : Around} {cdv : Value} {s : Shared} (hr : Room 0 (A.deeper (PyProof.Rows.envOfC "_law_begin" (defScope s__law_begin) s.heap.objs.size b._law_begin cdv))) (outer : List Env) (H : Hp) (E : XK) : PSs (Xb P w K mg base N__law_begin "_law_begin" s__law_begin b._law_begin cdv A outer s H E) (defBody s__law_begin) (@t__law_begin ⟨w⟩ K a) := by
  letI : Wld := ⟨w⟩
  have hu := hu_of hr
  have hu64 := hu64_of hr
  unfold t__law_begin
  exact (pss_one (ps_ret (pe_lst (pa_cons (pe_cb (call_maxX rfl) T.b_max PyProof.Rows.boot_max (pa_cons pe_int (pa_cons (pe_op op_sub (pv 0) (pe_op op_powW pe_int pe_int)) pa_nil))) (pa_cons (pe_op op_addX (pv 0) (pe_op op_mulX pe_int (pv 1))) (pa_cons pe_int pa_nil))))))
theorem sc__law_draw : FnScope N__law_draw ["state", "size"] (defScope s__law_draw) := ⟨rfl, rfl, rfl, by decide +kernel, rfl, by decide +kernel, by decide +kernel⟩
theorem dv__law_draw {P : Program} {w : World} {K : PySem.W.Frag} {mg : Str → Option Value} {base : Heap} {a : Ad} {b : Bd} (T : Tx K mg a b)  {A : Around} {cdv : Value} {s : Shared} (hr : Room 0 (A.deeper (PyProof.Rows.envOfC "_law_draw" (defScope s__law_draw) s.heap.objs.size b._law_draw cdv))) (outer : List Env) (H : Hp) (E : XK) : PSs (Xb P w K mg base N__law_draw "_law_draw" s__law_draw b._law_draw cdv A outer s H E) (defBody s__law_draw) (@t__law_draw ⟨w⟩ K a) := by
  letI : Wld := ⟨w⟩
  have hu := hu_of hr
  have hu64 := hu64_of hr
  unfold t__law_draw
  exact (pss_cons (ps_if (pt_cmpR op_gtX (pe_ixP hu64 (pv 0) pe_int) pe_int (nomark _)) (pss_cons (ps_set (i := 2) sc__law_draw.nd rfl (.inl rfl) (pe_op op_mod (pe_ct call_intX T.b_int PyProof.Rows.boot_int (pa_cons (pe_ixP hu64 (pv 0) pe_int) pa_nil)) (pv 1))) (pss_cons (ps_asg (pe_op op_fdivW (pe_ixP hu64 (pv 0) pe_int) (pv 1)) (pg_sub (pv 0) pe_int set_list)) (pss_one (ps_ret (pv 2))))) pss_nil) (pss_cons (ps_asg (pe_op op_addX (pe_ixP hu64 (pv 0) pe_int) pe_int) (pg_sub (pv 0) pe_int set_list)) (pss_cons (ps_set (i := 2) sc__law_draw.nd rfl (.inl rfl) (pe_op op_addX (pe_op op_mod (pe_ct call_intX T.b_int PyProof.Rows.boot_int (pa_cons (pe_ixP hu64 (pv 0) pe_int) pa_nil)) pe_int) (pe_op op_mulX pe_int (pe_ixP hu64 (pv 0) pe_int)))) (pss_cons (ps_set (i := 2) sc__law_draw.nd rfl (.inl rfl) (pe_op op_mulX (pv 2) (pe_op op_addX (pe_op op_addX (pe_op op_mod (pe_ct call_intX T.b_int PyProof.Rows.boot_int (pa_cons (pe_ixP hu64 (pv 0) pe_int) pa_nil)) pe_int) (pe_op op_mulX (pe_op op_mulX pe_int (pe_ixP hu64 (pv 0) pe_int)) (pe_ixP hu64 (pv 0) pe_int))) pe_int))) (pss_one (ps_ret (pe_op op_mod (pe_ct call_intX T.b_int PyProof.Rows.boot_int (pa_cons (pe_op op_fdivW (pe_op op_mod (pe_ct call_intX T.b_int PyProof.Rows.boot_int (pa_cons (pe_op op_powW (pv 2) pe_int) pa_nil)) pe_int) pe_int) pa_nil)) (pv 1))))))))
theorem sc__law_pick : FnScope N__law_pick ["state", "some"] (defScope s__law_pick) := ⟨rfl, rfl, rfl, by decide +kernel, rfl, by decide +kernel, by decide +kernel⟩
theorem dv__law_pick {P : Program} {w : World} {K : PySem.W.Frag} {mg : Str → Option Value} {base : Heap} {a : Ad} {b : Bd} (T : Tx K mg a b) (c__law_draw : FC P w K mg base 1 b._law_draw b.d__law_draw ["state", "size"] (@sp__law_draw ⟨w⟩ K a)) {A : Around} {cdv : Value} {s : Shared} (hr : Room 1 (A.deeper (PyProof.Rows.envOfC "_law_pick" (defScope s__law_pick) s.heap.objs.size b._law_pick cdv))) (outer : List Env) (H : Hp) (E : XK) : PSs (Xb P w K mg base N__law_pick "_law_pick" s__law_pick b._law_pick cdv A outer s H E) (defBody s__law_pick) (@t__law_pick ⟨w⟩ K a) := by
  letI : Wld := ⟨w⟩
  have hu := hu_of hr
  have hu64 := hu64_of hr
  unfold t__law_pick
  exact (pss_one (ps_ret (pe_ixP hu64 (pv 1) (pe_fn c__law_draw hr (by decide) T.f__law_draw (pa_cons (pv 0) (pa_cons (pe_cb call_lenX T.b_len PySem.boot_len (pa_cons (pv 1) pa_nil)) pa_nil))))))
theorem sc__law_names : FnScope N__law_names ["state", "many"] (defScope s__law_names) := ⟨rfl, rfl, rfl, by decide +kernel, rfl, by decide +kernel, by decide +kernel⟩
theorem dv__law_names {P : Program} {w : World} {K : PySem.W.Frag} {mg : Str → Option Value} {base : Heap} {a : Ad} {b : Bd} (T : Tx K mg a b) (c__law_draw : FC P w K mg base 1 b._law_draw b.d__law_draw ["state", "size"] (@sp__law_draw ⟨w⟩ K a)) (c__law_pick : FC P w K mg base 2 b._law_pick b.d__law_pick ["state", "some"] (@sp__law_pick ⟨w⟩ K a)) {A : Around} {cdv : Value} {s : Shared} (hr : Room 2 (A.deeper (PyProof.Rows.envOfC "_law_names" (defScope s__law_names) s.heap.objs.size b._law_names cdv))) (outer : List Env) (H : Hp) (E : XK) : PSs (Xb P w K mg base N__law_names "_law_names" s__law_names b._law_names cdv A outer s H E) (defBody s__law_names) (@t__law_names ⟨w⟩ K a) := by
  letI : Wld := ⟨w⟩
  have hu := hu_of hr
  have hu64 := hu64_of hr
  unfold t__law_names
  exact (pss_cons (ps_asg (pe_tup (pa_cons pe_str (pa_cons (pe_fn c__law_draw hr (by decide) T.f__law_draw (pa_cons (pv 0) (pa_cons pe_int pa_nil))) pa_nil))) (pg_tup rfl (pgs_cons (pg_name (i := 2) sc__law_names.nd rfl (.inr rfl)) (pgs_cons (pg_name (i := 3) sc__law_names.nd rfl (.inl rfl)) pgs_nil)))) (pss_cons (ps_set (i := 4) sc__law_names.nd rfl (.inl rfl) (pe_lst pa_nil)) (pss_cons (ps_for PassesOwn.never rfl (pi_range1 rfl T.b_range (pa_cons (pv 1) pa_nil)) (pg_name (i := 5) sc__law_names.nd rfl (.inl rfl)) (pss_cons (ps_set (i := 6) sc__law_names.nd rfl (.inl rfl) (pe_bm PySem.F.plainAttrs_str PySem.F.slot_str_join PySem.F.type_str_join mt_joinX pe_str (pa_cons (pe_lc (own := [("sign", 7)]) rfl sc__law_names.nd (pi_range1 rfl T.b_range (pa_cons (pe_fn c__law_draw hr (by decide) T.f__law_draw (pa_cons (pv 0) (pa_cons pe_int pa_nil))) pa_nil)) (blkOk_by (N := N__law_names) (sc := defScope s__law_names) (own := [("sign", 7)]) (by decide +kernel)) (fun _ _ _ _ _ => (pg_name (i := 7) sc__law_names.nd rfl (.inl rfl))) (fun _ _ _ _ _ => pts_nil) (fun _ _ _ _ _ => (pe_fn c__law_pick hr (by decide) T.f__law_pick (pa_cons (pv 0) (pa_cons (pv 2) pa_nil))))) pa_nil))) (pss_one (ps_expr (pe_bm PySem.F.plainAttrs_list PySem.F.slot_list_append PySem.F.type_list_append mt_append (pv 4) (pa_cons (pe_op op_addX (pv 6) (pe_ixP hu64 (pv 2) (pe_op op_mod (pe_ct call_intX T.b_int PyProof.Rows.boot_int (pa_cons (pe_op op_addX (pv 3) (pe_op op_mulX pe_int (pv 5))) pa_nil)) pe_int))) pa_nil)))))) (pss_one (ps_ret (pv 4))))))
theorem sc__law_mixed : FnScope N__law_mixed ["state", "some"] (defScope s__law_mixed) := ⟨rfl, rfl, rfl, by decide +kernel, rfl, by decide +kernel, by decide +kernel⟩
theorem dv__law_mixed {P : Program} {w : World} {K : PySem.W.Frag} {mg : Str → Option Value} {base : Heap} {a : Ad} {b : Bd} (T : Tx K mg a b) (c__law_draw : FC P w K mg base 1 b._law_draw b.d__law_draw ["state", "size"] (@sp__law_draw ⟨w⟩ K a)) {A : Around} {cdv : Value} {s : Shared} (hr : Room 1 (A.deeper (PyProof.Rows.envOfC "_law_mixed" (defScope s__law_mixed) s.heap.objs.size b._law_mixed cdv))) (outer : List Env) (H : Hp) (E : XK) : PSs (Xb P w K mg base N__law_mixed "_law_mixed" s__law_mixed b._law_mixed cdv A outer s H E) (defBody s__law_mixed) (@t__law_mixed ⟨w⟩ K a) := by
  letI : Wld := ⟨w⟩
  have hu := hu_of hr
  have hu64 := hu64_of hr
  unfold t__law_mixed
  exact (pss_cons (ps_par rfl sc__law_mixed.nd rfl rfl (by decide) rfl rfl (pa_cons (pe_ct (call_listX rfl) T.b_list PyProof.Rows.boot_list (pa_cons (pv 1) pa_nil)) (pa_cons (pe_lst pa_nil) pa_nil)) rfl) (pss_cons (ps_while PassesOwn.never (pt_cmpR (op_neP hu64) (pv 2) (pe_lst pa_nil) (nomark _)) (pss_cons (ps_set (i := 4) sc__law_mixed.nd rfl (.inl rfl) (pe_fn c__law_draw hr (by decide) T.f__law_draw (pa_cons (pv 0) (pa_cons (pe_cb call_lenX T.b_len PySem.boot_len (pa_cons (pv 2) pa_nil)) pa_nil)))) (pss_cons (ps_expr (pe_bm PySem.F.plainAttrs_list PySem.F.slot_list_append PySem.F.type_list_append mt_append (pv 3) (pa_cons (pe_ixP hu64 (pv 2) (pv 4)) pa_nil))) (pss_one (ps_set (i := 2) sc__law_mixed.nd rfl (.inl rfl) (pe_op op_addX (pe_slice sl_X (pv 2) po_none (po_some (pv 4))) (pe_slice sl_X (pv 2) (po_some (pe_op op_addX (pv 4) pe_int)) po_none))))))) (pss_one (ps_ret (pv 3)))))
theorem sc__law_hop : FnScope N__law_hop ["state", "later", "every"] (defScope s__law_hop) := ⟨rfl, rfl, rfl, by decide +kernel, rfl, by decide +kernel, by decide +kernel⟩
theorem dv__law_hop {P : Program} {w : World} {K : PySem.W.Frag} {mg : Str → Option Value} {base : Heap} {a : Ad} {b : Bd} (T : Tx K mg a b) (c__law_draw : FC P w K mg base 1 b._law_draw b.d__law_draw ["state", "size"] (@sp__law_draw ⟨w⟩ K a)) (c__law_pick : FC P w K mg base 2 b._law_pick b.d__law_pick ["state", "some"] (@sp__law_pick ⟨w⟩ K a)) {A : Around} {cdv : Value} {s : Shared} (hr : Room 2 (A.deeper (PyProof.Rows.envOfC "_law_hop" (defScope s__law_hop) s.heap.objs.size b._law_hop cdv))) (outer : List Env) (H : Hp) (E : XK) : PSs (Xb P w K mg base N__law_hop "_law_hop" s__law_hop b._law_hop cdv A outer s H E) (defBody s__law_hop) (@t__law_hop ⟨w⟩ K a) := by
  letI : Wld := ⟨w⟩
  have hu := hu_of hr
  have hu64 := hu64_of hr
  unfold t__law_hop
  exact (pss_cons (ps_set (i := 3) sc__law_hop.nd rfl (.inl rfl) (pe_fn c__law_draw hr (by decide) T.f__law_draw (pa_cons (pv 0) (pa_cons pe_int pa_nil)))) (pss_cons (ps_if (pt_cmpR (op_eqP hu64) (pv 3) pe_int (nomark _)) (pss_one (ps_ret pe_non)) pss_nil) (pss_one (ps_ret (pe_fn c__law_pick hr (by decide) T.f__law_pick (pa_cons (pv 0) (pa_cons (pe_ifExp (pt_cmpR (op_eqP hu64) (pv 3) pe_int (nomark _)) (pv 2) (pv 1)) pa_nil)))))))
theorem sc__law_flow : FnScope N__law_flow ["state", "nodes", "exits"] (defScope s__law_flow) := ⟨rfl, rfl, rfl, by decide +kernel, rfl, by decide +kernel, by decide +kernel⟩
theorem dv__law_flow {P : Program} {w : World} {K : PySem.W.Frag} {mg : Str → Option Value} {base : Heap} {a : Ad} {b : Bd} (T : Tx K mg a b) (c__law_mixed : FC P w K mg base 2 b._law_mixed b.d__law_mixed ["state", "some"] (@sp__law_mixed ⟨w⟩ K a)) (c__law_hop : FC P w K mg base 3 b._law_hop b.d__law_hop ["state", "later", "every"] (@sp__law_hop ⟨w⟩ K a)) (c__law_draw : FC P w K mg base 1 b._law_draw b.d__law_draw ["state", "size"] (@sp__law_draw ⟨w⟩ K a)) {A : Around} {cdv : Value} {s : Shared} (hr : Room 3 (A.deeper (PyProof.Rows.envOfC "_law_flow" (defScope s__law_flow) s.heap.objs.size b._law_flow cdv))) (outer : List Env) (H : Hp) (E : XK) : PSs (Xb P w K mg base N__law_flow "_law_flow" s__law_flow b._law_flow cdv A outer s H E) (defBody s__law_flow) (@t__law_flow ⟨w⟩ K a) := by
  letI : Wld := ⟨w⟩
  have hu := hu_of hr
  have hu64 := hu64_of hr
  unfold t__law_flow
  exact (pss_cons (ps_par rfl sc__law_flow.nd rfl rfl (by decide) rfl rfl (pa_cons (pe_fn c__law_mixed hr (by decide) T.f__law_mixed (pa_cons (pv 0) (pa_cons (pv 1) pa_nil))) (pa_cons (pe_fn c__law_mixed hr (by decide) T.f__law_mixed (pa_cons (pv 0) (pa_cons (pv 1) pa_nil))) pa_nil)) rfl) (pss_cons (ps_par rfl sc__law_flow.nd rfl rfl (by decide) rfl rfl (pa_cons pe_dnewK (pa_cons pe_dnewK pa_nil)) rfl) (pss_cons (ps_for PassesOwn.never rfl (pi_enumS rfl T.b_enumerate (pa_cons (pv 3) pa_nil)) (pg_tup rfl (pgs_cons (pg_name (i := 7) sc__law_flow.nd rfl (.inl rfl)) (pgs_cons (pg_name (i := 8) sc__law_flow.nd rfl (.inl rfl)) pgs_nil))) (pss_one (ps_dput hu (pv 5) (pv 8) (pe_fn c__law_hop hr (by decide) T.f__law_hop (pa_cons (pv 0) (pa_cons (pe_op op_addX (pe_op op_mulX (pe_slice sl_X (pv 3) (po_some (pe_op op_addX (pv 7) pe_int)) po_none) pe_int) (pv 2)) (pa_cons (pe_op op_addX (pv 1) (pv 2)) pa_nil)))) rfl))) (pss_cons (ps_for PassesOwn.never rfl (pi_enumS rfl T.b_enumerate (pa_cons (pv 4) pa_nil)) (pg_tup rfl (pgs_cons (pg_name (i := 7) sc__law_flow.nd rfl (.inl rfl)) (pgs_cons (pg_name (i := 8) sc__law_flow.nd rfl (.inl rfl)) pgs_nil))) (pss_cons (ps_set (i := 9) sc__law_flow.nd rfl (.inl rfl) (pe_fn c__law_hop hr (by decide) T.f__law_hop (pa_cons (pv 0) (pa_cons (pe_op op_addX (pe_op op_mulX (pe_slice sl_X (pv 4) (po_some (pe_op op_addX (pv 7) pe_int)) po_none) pe_int) (pv 2)) (pa_cons (pe_op op_addX (pv 1) (pv 2)) pa_nil))))) (pss_one (ps_dput hu (pv 6) (pv 8) (pe_ifExp (pt_cmpR op_gtX (pe_fn c__law_draw hr (by decide) T.f__law_draw (pa_cons (pv 0) (pa_cons pe_int pa_nil))) pe_int (nomark _)) (pv 9) (pe_ixP hu64 (pv 5) (pv 8))) rfl)))) (pss_one (ps_ret (pe_tup (pa_cons (pv 5) (pa_cons (pv 6) pa_nil)))))))))
theorem sc__law_model : FnScope N__law_model ["state", "most", "flows"] (defScope s__law_model) := ⟨rfl, rfl, rfl, by decide +kernel, rfl, by decide +kernel, by decide +kernel⟩
theorem dv__law_model {P : Program} {w : World} {K : PySem.W.Frag} {mg : Str → Option Value} {base : Heap} {a : Ad} {b : Bd} (T : Tx K mg a b) (c__law_draw : FC P w K mg base 1 b._law_draw b.d__law_draw ["state", "size"] (@sp__law_draw ⟨w⟩ K a)) (c__law_names : FC P w K mg base 3 b._law_names b.d__law_names ["state", "many"] (@sp__law_names ⟨w⟩ K a)) (c__law_flow : FC P w K mg base 4 b._law_flow b.d__law_flow ["state", "nodes", "exits"] (@sp__law_flow ⟨w⟩ K a)) {A : Around} {cdv : Value} {s : Shared} (hr : Room 4 (A.deeper (PyProof.Rows.envOfC "_law_model" (defScope s__law_model) s.heap.objs.size b._law_model cdv))) (outer : List Env) (H : Hp) (E : XK) : PSs (Xb P w K mg base N__law_model "_law_model" s__law_model b._law_model cdv A outer s H E) (defBody s__law_model) (@t__law_model ⟨w⟩ K a) := by
  letI : Wld := ⟨w⟩
  have hu := hu_of hr
  have hu64 := hu64_of hr
  unfold t__law_model
  exact (pss_cons (ps_par3 rfl sc__law_model.nd rfl rfl rfl (by decide) (by decide) (by decide) rfl rfl rfl (pa_cons (pe_op op_addX pe_int (pe_fn c__law_draw hr (by decide) T.f__law_draw (pa_cons (pv 0) (pa_cons (pv 1) pa_nil)))) (pa_cons (pe_op op_addX pe_int (pe_fn c__law_draw hr (by decide) T.f__law_draw (pa_cons (pv 0) (pa_cons pe_int pa_nil)))) (pa_cons (pe_op op_addX pe_int (pe_fn c__law_draw hr (by decide) T.f__law_draw (pa_cons (pv 0) (pa_cons (pv 2) pa_nil)))) pa_nil))) rfl) (pss_cons (ps_set (i := 6) sc__law_model.nd rfl (.inl rfl) (pe_fn c__law_names hr (by decide) T.f__law_names (pa_cons (pv 0) (pa_cons (pe_op op_addX (pe_op op_addX (pv 3) (pv 4)) (pv 5)) pa_nil)))) (pss_cons (ps_par rfl sc__law_model.nd rfl rfl (by decide) rfl rfl (pa_cons (pe_slice sl_X (pv 6) po_none (po_some (pv 3))) (pa_cons (pe_slice sl_X (pv 6) (po_some (pv 3)) (po_some (pe_op op_addX (pv 3) (pv 4)))) pa_nil)) rfl) (pss_cons (ps_set (i := 9) sc__law_model.nd rfl (.inl rfl) pe_dnewK) (pss_cons (ps_for PassesOwn.never rfl (pi_seq (pe_slice sl_X (pv 6) (po_some (pe_op op_addX (pv 3) (pv 4))) po_none)) (pg_name (i := 10) sc__law_model.nd rfl (.inl rfl)) (pss_one (ps_dput hu (pv 9) (pv 10) (pe_fn c__law_flow hr (by decide) T.f__law_flow (pa_cons (pv 0) (pa_cons (pv 7) (pa_cons (pv 8) pa_nil)))) rfl))) (pss_one (ps_ret (pe_disp (pps_cons pe_str (pv 7) (pps_cons pe_str (pv 8) (pps_cons pe_str (pv 9) pps_nil))) rfl rfl (by simp) (by decide)))))))))
theorem sc__law_shape : FnScope N__law_shape ["state", "most", "flows"] (defScope s__law_shape) := ⟨rfl, rfl, rfl, by decide +kernel, rfl, by decide +kernel, by decide +kernel⟩
theorem dv__law_shape {P : Program} {w : World} {K : PySem.W.Frag} {mg : Str → Option Value} {base : Heap} {a : Ad} {b : Bd} (T : Tx K mg a b) (c__law_model : FC P w K mg base 5 b._law_model b.d__law_model ["state", "most", "flows"] (@sp__law_model ⟨w⟩ K a)) (c__law_mixed : FC P w K mg base 2 b._law_mixed b.d__law_mixed ["state", "some"] (@sp__law_mixed ⟨w⟩ K a)) (c__law_draw : FC P w K mg base 1 b._law_draw b.d__law_draw ["state", "size"] (@sp__law_draw ⟨w⟩ K a)) {A : Around} {cdv : Value} {s : Shared} (hr : Room 5 (A.deeper (PyProof.Rows.envOfC "_law_shape" (defScope s__law_shape) s.heap.objs.size b._law_shape cdv))) (outer : List Env) (H : Hp) (E : XK) : PSs (Xb P w K mg base N__law_shape "_law_shape" s__law_shape b._law_shape cdv A outer s H E) (defBody s__law_shape) (@t__law_shape ⟨w⟩ K a) := by
  letI : Wld := ⟨w⟩
  have hu := hu_of hr
  have hu64 := hu64_of hr
  unfold t__law_shape
  exact (pss_cons (ps_set (i := 3) sc__law_shape.nd rfl (.inl rfl) (pe_fn c__law_model hr (by decide) T.f__law_model (pa_cons (pv 0) (pa_cons (pv 1) (pa_cons (pv 2) pa_nil))))) (pss_one (ps_ret (pe_lst (pa_cons (pv 3) (pa_cons (pe_slice sl_X (pe_fn c__law_mixed hr (by decide) T.f__law_mixed (pa_cons (pv 0) (pa_cons (pe_ixP hu64 (pv 3) pe_str) pa_nil))) po_none (po_some (pe_fn c__law_draw hr (by decide) T.f__law_draw (pa_cons (pv 0) (pa_cons (pe_op op_addX (pe_cb call_lenX T.b_len PySem.boot_len (pa_cons (pe_ixP hu64 (pv 3) pe_str) pa_nil)) pe_int) pa_nil))))) pa_nil))))))
theorem sc_is_name : FnScope N_is_name ["value"] (defScope s_is_name) := ⟨rfl, rfl, rfl, by decide +kernel, rfl, by decide +kernel, by decide +kernel⟩
theorem dv_is_name {P : Program} {w : World} {K : PySem.W.Frag} {mg : Str → Option Value} {base : Heap} {a : Ad} {b : Bd} (T : Tx K mg a b)  {A : Around} {cdv : Value} {s : Shared} (hr : Room 0 (A.deeper (PyProof.Rows.envOfC "is_name" (defScope s_is_name) s.heap.objs.size b.is_name cdv))) (outer : List Env) (H : Hp) (E : XK) : PSs (Xb P w K mg base N_is_name "is_name" s_is_name b.is_name cdv A outer s H E) (defBody s_is_name) (@t_is_name ⟨w⟩ K a) := by
  letI : Wld := ⟨w⟩
  have hu := hu_of hr
  have hu64 := hu64_of hr
  unfold t_is_name
  exact (pss_cons (ps_if ((pw_or (pt_not (pt_truth (pe_cb call_isiX T.b_isinstance PyProof.Rows.boot_isinstance (pa_cons (pv 0) (pa_cons (pe_bty T.b_str PyProof.Rows.boot_str) pa_nil))) fun _ => rfl)) (pw_or1 (pt_not (pt_chain op_le op_le pe_int (pe_cb call_lenX T.b_len PySem.boot_len (pa_cons (pv 0) pa_nil)) (pe_gint T.g_MOST_SIGNS)))))).pt (pss_one (ps_ret pe_bl)) pss_nil) (pss_one (ps_ret (pe_cmpR (op_eqP hu64) (pe_lc (own := [("sign", 1)]) rfl sc_is_name.nd (pi_str (pv 0)) (blkOk_by (N := N_is_name) (sc := defScope s_is_name) (own := [("sign", 1)]) (by decide +kernel)) (fun _ _ _ _ _ => (pg_name (i := 1) sc_is_name.nd rfl (.inl rfl))) (fun _ _ _ _ _ => (pts_one (pt_cmpR (op_ninX hu64) (pv 1) (pe_gstr T.g_LETTERS) (by with_unfolding_all rfl)))) (fun _ _ _ _ _ => (pv 1))) (pe_lst pa_nil) (nomark _)))))
theorem sc_Network___init__ : FnScope N_Network___init__ ["self", "nodes", "exits"] (defScope s_Network___init__) := ⟨rfl, rfl, rfl, by decide +kernel, rfl, by decide +kernel, by decide +kernel⟩
theorem dv_Network___init__ {P : Program} {w : World} {K : PySem.W.Frag} {mg : Str → Option Value} {base : Heap} {a : Ad} {b : Bd} (T : Tx K mg a b) (c_is_name : FC P w K mg base 1 b.is_name b.d_is_name ["value"] (@sp_is_name ⟨w⟩ K a)) {A : Around} {cdv : Value} {s : Shared} (hr : Room 1 (A.deeper (PyProof.Rows.envOfC "Network.__init__" (defScope s_Network___init__) s.heap.objs.size b.Network___init__ cdv))) (outer : List Env) (H : Hp) (E : XK) : PSs (Xb P w K mg base N_Network___init__ "Network.__init__" s_Network___init__ b.Network___init__ cdv A outer s H E) (defBody s_Network___init__) (@t_Network___init__ ⟨w⟩ K a) := by
  letI : Wld := ⟨w⟩
  have hu := hu_of hr
  have hu64 := hu64_of hr
  unfold t_Network___init__
  exact (pss_cons (ps_if ((pw_or (pt_not (pt_truth (pe_cb call_isiX T.b_isinstance PyProof.Rows.boot_isinstance (pa_cons (pv 1) (pa_cons (pe_tup (pa_cons (pe_bty T.b_list PyProof.Rows.boot_list) (pa_cons (pe_bty T.b_tuple PyProof.Rows.boot_tuple) pa_nil))) pa_nil))) fun _ => rfl)) (pw_or1 (pt_not (pt_truth (pe_cb call_isiX T.b_isinstance PyProof.Rows.boot_isinstance (pa_cons (pv 2) (pa_cons (pe_tup (pa_cons (pe_bty T.b_list PyProof.Rows.boot_list) (pa_cons (pe_bty T.b_tuple PyProof.Rows.boot_tuple) pa_nil))) pa_nil))) fun _ => rfl))))).pt (pss_one ps_never) pss_nil) (pss_cons (ps_set (i := 3) sc_Network___init__.nd rfl (.inl rfl) (pe_lst pa_nil)) (pss_cons (ps_for PassesOwn.never rfl (pi_seq (pe_op op_addX (pe_ct (call_listX rfl) T.b_list PyProof.Rows.boot_list (pa_cons (pv 1) pa_nil)) (pe_ct (call_listX rfl) T.b_list PyProof.Rows.boot_list (pa_cons (pv 2) pa_nil)))) (pg_name (i := 4) sc_Network___init__.nd rfl (.inl rfl)) (pss_cons (ps_if ((pw_or (pt_not (pt_truth (pe_fn c_is_name hr (by decide) T.f_is_name (pa_cons (pv 4) pa_nil)) fun _ => rfl)) (pw_or1 (pt_cmpR (op_inX hu64) (pv 4) (pv 3) (by with_unfolding_all rfl))))).pt (pss_one ps_never) pss_nil) (pss_one (ps_expr (pe_bm PySem.F.plainAttrs_list PySem.F.slot_list_append PySem.F.type_list_append mt_append (pv 3) (pa_cons (pv 4) pa_nil)))))) (pss_cons (ps_if ((pw_or (pt_not (pt_chain op_le op_le pe_int (pe_cb call_lenX T.b_len PySem.boot_len (pa_cons (pv 1) pa_nil)) (pe_gint T.g_MOST_NODES))) (pw_or1 (pt_not (pt_chain op_le op_le pe_int (pe_cb call_lenX T.b_len PySem.boot_len (pa_cons (pv 2) pa_nil)) (pe_gint T.g_MOST_EXITS)))))).pt (pss_one ps_never) pss_nil) (pss_cons (ps_fld (pv 0) (pe_ct (call_tupleX rfl) T.b_tuple PyProof.Rows.boot_tuple (pa_cons (pv 1) pa_nil)) rfl) (pss_one (ps_fld (pv 0) (pe_ct (call_tupleX rfl) T.b_tuple PyProof.Rows.boot_tuple (pa_cons (pv 2) pa_nil)) rfl)))))))
theorem sc_Network_nodes : FnScope N_Network_nodes ["self"] (defScope s_Network_nodes) := ⟨rfl, rfl, rfl, by decide +kernel, rfl, by decide +kernel, by decide +kernel⟩
theorem dv_Network_nodes {P : Program} {w : World} {K : PySem.W.Frag} {mg : Str → Option Value} {base : Heap} {a : Ad} {b : Bd} (T : Tx K mg a b)  {A : Around} {cdv : Value} {s : Shared} (hr : Room 0 (A.deeper (PyProof.Rows.envOfC "Network.nodes" (defScope s_Network_nodes) s.heap.objs.size b.Network_nodes cdv))) (outer : List Env) (H : Hp) (E : XK) : PSs (Xb P w K mg base N_Network_nodes "Network.nodes" s_Network_nodes b.Network_nodes cdv A outer s H E) (defBody s_Network_nodes) (@t_Network_nodes ⟨w⟩ K a) := by
  letI : Wld := ⟨w⟩
  have hu := hu_of hr
  have hu64 := hu64_of hr
  unfold t_Network_nodes
  exact (pss_one (ps_ret (pe_fld (pv 0) rfl)))
theorem sc_is_node : FnScope N_is_node ["network", "value"] (defScope s_is_node) := ⟨rfl, rfl, rfl, by decide +kernel, rfl, by decide +kernel, by decide +kernel⟩
theorem dv_is_node {P : Program} {w : World} {K : PySem.W.Frag} {mg : Str → Option Value} {base : Heap} {a : Ad} {b : Bd} (T : Tx K mg a b) (c_Network_nodes : FC P w K mg base 1 b.Network_nodes b.d_Network_nodes ["self"] (@sp_Network_nodes ⟨w⟩ K a)) {A : Around} {cdv : Value} {s : Shared} (hr : Room 2 (A.deeper (PyProof.Rows.envOfC "is_node" (defScope s_is_node) s.heap.objs.size b.is_node cdv))) (outer : List Env) (H : Hp) (E : XK) : PSs (Xb P w K mg base N_is_node "is_node" s_is_node b.is_node cdv A outer s H E) (defBody s_is_node) (@t_is_node ⟨w⟩ K a) := by
  letI : Wld := ⟨w⟩
  have hu := hu_of hr
  have hu64 := hu64_of hr
  unfold t_is_node
  exact (pss_one (ps_ret (pe_and (pe_cb call_isiX T.b_isinstance PyProof.Rows.boot_isinstance (pa_cons (pv 1) (pa_cons (pe_bty T.b_str PyProof.Rows.boot_str) pa_nil))) (pe_one (pe_cmpR (op_inX hu64) (pv 1) (pe_pr c_Network_nodes hr (by decide) T.tc.c_Network T.pr_Network_nodes (pv 0)) (by with_unfolding_all rfl))))))
theorem sc_Network_exits : FnScope N_Network_exits ["self"] (defScope s_Network_exits) := ⟨rfl, rfl, rfl, by decide +kernel, rfl, by decide +kernel, by decide +kernel⟩
theorem dv_Network_exits {P : Program} {w : World} {K : PySem.W.Frag} {mg : Str → Option Value} {base : Heap} {a : Ad} {b : Bd} (T : Tx K mg a b)  {A : Around} {cdv : Value} {s : Shared} (hr : Room 0 (A.deeper (PyProof.Rows.envOfC "Network.exits" (defScope s_Network_exits) s.heap.objs.size b.Network_exits cdv))) (outer : List Env) (H : Hp) (E : XK) : PSs (Xb P w K mg base N_Network_exits "Network.exits" s_Network_exits b.Network_exits cdv A outer s H E) (defBody s_Network_exits) (@t_Network_exits ⟨w⟩ K a) := by
  letI : Wld := ⟨w⟩
  have hu := hu_of hr
  have hu64 := hu64_of hr
  unfold t_Network_exits
  exact (pss_one (ps_ret (pe_fld (pv 0) rfl)))
theorem sc_is_exit : FnScope N_is_exit ["network", "value"] (defScope s_is_exit) := ⟨rfl, rfl, rfl, by decide +kernel, rfl, by decide +kernel, by decide +kernel⟩
theorem dv_is_exit {P : Program} {w : World} {K : PySem.W.Frag} {mg : Str → Option Value} {base : Heap} {a : Ad} {b : Bd} (T : Tx K mg a b) (c_Network_exits : FC P w K mg base 1 b.Network_exits b.d_Network_exits ["self"] (@sp_Network_exits ⟨w⟩ K a)) {A : Around} {cdv : Value} {s : Shared} (hr : Room 2 (A.deeper (PyProof.Rows.envOfC "is_exit" (defScope s_is_exit) s.heap.objs.size b.is_exit cdv))) (outer : List Env) (H : Hp) (E : XK) : PSs (Xb P w K mg base N_is_exit "is_exit" s_is_exit b.is_exit cdv A outer s H E) (defBody s_is_exit) (@t_is_exit ⟨w⟩ K a) := by
  letI : Wld := ⟨w⟩
  have hu := hu_of hr
  have hu64 := hu64_of hr
  unfold t_is_exit
  exact (pss_one (ps_ret (pe_and (pe_cb call_isiX T.b_isinstance PyProof.Rows.boot_isinstance (pa_cons (pv 1) (pa_cons (pe_bty T.b_str PyProof.Rows.boot_str) pa_nil))) (pe_one (pe_cmpR (op_inX hu64) (pv 1) (pe_pr c_Network_exits hr (by decide) T.tc.c_Network T.pr_Network_exits (pv 0)) (by with_unfolding_all rfl))))))
theorem sc_is_hop : FnScope N_is_hop ["network", "value"] (defScope s_is_hop) := ⟨rfl, rfl, rfl, by decide +kernel, rfl, by decide +kernel, by decide +kernel⟩
theorem dv_is_hop {P : Program} {w : World} {K : PySem.W.Frag} {mg : Str → Option Value} {base : Heap} {a : Ad} {b : Bd} (T : Tx K mg a b) (c_is_node : FC P w K mg base 3 b.is_node b.d_is_node ["network", "value"] (@sp_is_node ⟨w⟩ K a)) (c_is_exit : FC P w K mg base 3 b.is_exit b.d_is_exit ["network", "value"] (@sp_is_exit ⟨w⟩ K a)) {A : Around} {cdv : Value} {s : Shared} (hr : Room 3 (A.deeper (PyProof.Rows.envOfC "is_hop" (defScope s_is_hop) s.heap.objs.size b.is_hop cdv))) (outer : List Env) (H : Hp) (E : XK) : PSs (Xb P w K mg base N_is_hop "is_hop" s_is_hop b.is_hop cdv A outer s H E) (defBody s_is_hop) (@t_is_hop ⟨w⟩ K a) := by
  letI : Wld := ⟨w⟩
  have hu := hu_of hr
  have hu64 := hu64_of hr
  unfold t_is_hop
  exact (pss_one (ps_ret (pe_or (pe_cmpR op_isN (pv 1) pe_non (nomark _)) (pe_or (pe_fn c_is_node hr (by decide) T.f_is_node (pa_cons (pv 0) (pa_cons (pv 1) pa_nil))) (pe_one (pe_fn c_is_exit hr (by decide) T.f_is_exit (pa_cons (pv 0) (pa_cons (pv 1) pa_nil))))))))
theorem sc_Table___init__ : FnScope N_Table___init__ ["self", "network", "hops"] (defScope s_Table___init__) := ⟨rfl, rfl, rfl, by decide +kernel, rfl, by decide +kernel, by decide +kernel⟩
theorem dv_Table___init__ {P : Program} {w : World} {K : PySem.W.Frag} {mg : Str → Option Value} {base : Heap} {a : Ad} {b : Bd} (T : Tx K mg a b) (c_Network_nodes : FC P w K mg base 1 b.Network_nodes b.d_Network_nodes ["self"] (@sp_Network_nodes ⟨w⟩ K a)) (c_is_hop : FC P w K mg base 4 b.is_hop b.d_is_hop ["network", "value"] (@sp_is_hop ⟨w⟩ K a)) (c_is_node : FC P w K mg base 3 b.is_node b.d_is_node ["network", "value"] (@sp_is_node ⟨w⟩ K a)) {A : Around} {cdv : Value} {s : Shared} (hr : Room 4 (A.deeper (PyProof.Rows.envOfC "Table.__init__" (defScope s_Table___init__) s.heap.objs.size b.Table___init__ cdv))) (outer : List Env) (H : Hp) (E : XK) : PSs (Xb P w K mg base N_Table___init__ "Table.__init__" s_Table___init__ b.Table___init__ cdv A outer s H E) (defBody s_Table___init__) (@t_Table___init__ ⟨w⟩ K a) := by
  letI : Wld := ⟨w⟩
  have hu := hu_of hr
  have hu64 := hu64_of hr
  unfold t_Table___init__
  exact (pss_cons (ps_if (pt_not (pt_truth (pe_cb call_isiX T.b_isinstance PyProof.Rows.boot_isinstance (pa_cons (pv 2) (pa_cons (pe_bty T.b_dict PyProof.Rows.boot_dict) pa_nil))) fun _ => rfl)) (pss_one ps_never) pss_nil) (pss_cons (ps_for PassesOwn.never rfl (pi_seq (pe_pr c_Network_nodes hr (by decide) T.tc.c_Network T.pr_Network_nodes (pv 1))) (pg_name (i := 3) sc_Table___init__.nd rfl (.inl rfl)) (pss_one (ps_if ((pw_or (pt_cmpR (op_ninX hu64) (pv 3) (pv 2) (by with_unfolding_all rfl)) (pw_or1 (pt_not (pt_truth (pe_fn c_is_hop hr (by decide) T.f_is_hop (pa_cons (pv 1) (pa_cons (pe_ixP hu64 (pv 2) (pv 3)) pa_nil))) fun _ => rfl))))).pt (pss_one ps_never) pss_nil))) (pss_cons (ps_for PassesOwn.never rfl (pi_keysL (pv 2)) (pg_name (i := 4) sc_Table___init__.nd rfl (.inl rfl)) (pss_one (ps_if (pt_not (pt_truth (pe_fn c_is_node hr (by decide) T.f_is_node (pa_cons (pv 1) (pa_cons (pv 4) pa_nil))) fun _ => rfl)) (pss_one ps_never) pss_nil))) (pss_cons (ps_fld (pv 0) (pv 1) rfl) (pss_one (ps_fld (pv 0) (pe_dc (own := [("node", 3)]) rfl sc_Table___init__.nd (pi_seq (pe_pr c_Network_nodes hr (by decide) T.tc.c_Network T.pr_Network_nodes (pv 1))) (blkOk_by (N := N_Table___init__) (sc := defScope s_Table___init__) (own := [("node", 3)]) (by decide +kernel)) (fun _ _ _ _ _ => (pg_name (i := 3) sc_Table___init__.nd rfl (.inl rfl))) (fun _ _ _ _ _ => pts_nil) (fun _ _ _ _ _ => (pv 3)) (fun _ _ _ _ _ => (pe_ixP hu64 (pv 2) (pv 3)))) rfl))))))
theorem sc_Table_network : FnScope N_Table_network ["self"] (defScope s_Table_network) := ⟨rfl, rfl, rfl, by decide +kernel, rfl, by decide +kernel, by decide +kernel⟩
theorem dv_Table_network {P : Program} {w : World} {K : PySem.W.Frag} {mg : Str → Option Value} {base : Heap} {a : Ad} {b : Bd} (T : Tx K mg a b)  {A : Around} {cdv : Value} {s : Shared} (hr : Room 0 (A.deeper (PyProof.Rows.envOfC "Table.network" (defScope s_Table_network) s.heap.objs.size b.Table_network cdv))) (outer : List Env) (H : Hp) (E : XK) : PSs (Xb P w K mg base N_Table_network "Table.network" s_Table_network b.Table_network cdv A outer s H E) (defBody s_Table_network) (@t_Table_network ⟨w⟩ K a) := by
  letI : Wld := ⟨w⟩
  have hu := hu_of hr
  have hu64 := hu64_of hr
  unfold t_Table_network
  exact (pss_one (ps_ret (pe_fld (pv 0) rfl)))
theorem sc_Network___eq__ : FnScope N_Network___eq__ ["self", "other"] (defScope s_Network___eq__) := ⟨rfl, rfl, rfl, by decide +kernel, rfl, by decide +kernel, by decide +kernel⟩
theorem dv_Network___eq__ {P : Program} {w : World} {K : PySem.W.Frag} {mg : Str → Option Value} {base : Heap} {a : Ad} {b : Bd} (T : Tx K mg a b)  {A : Around} {cdv : Value} {s : Shared} (hr : Room 0 (A.deeper (PyProof.Rows.envOfC "Network.__eq__" (defScope s_Network___eq__) s.heap.objs.size b.Network___eq__ cdv))) (outer : List Env) (H : Hp) (E : XK) : PSs (Xb P w K mg base N_Network___eq__ "Network.__eq__" s_Network___eq__ b.Network___eq__ cdv A outer s H E) (defBody s_Network___eq__) (@t_Network___eq__ ⟨w⟩ K a) := by
  letI : Wld := ⟨w⟩
  have hu := hu_of hr
  have hu64 := hu64_of hr
  unfold t_Network___eq__
  exact (pss_cons (ps_if (pt_not (pt_truth (pe_cb call_isiX T.b_isinstance PyProof.Rows.boot_isinstance (pa_cons (pv 1) (pa_cons (pe_gcls T.m_Network) pa_nil))) fun _ => rfl)) (pss_one (ps_ret pe_bl)) pss_nil) (pss_one (ps_ret (pe_and (pe_cmpR (op_eqP hu64) (pe_fld (pv 0) rfl) (pe_fld (pv 1) rfl) (nomark _)) (pe_one (pe_cmpR (op_eqP hu64) (pe_fld (pv 0) rfl) (pe_fld (pv 1) rfl) (nomark _)))))))
theorem sc_need_flows : FnScope N_need_flows ["network", "flows"] (defScope s_need_flows) := ⟨rfl, rfl, rfl, by decide +kernel, rfl, by decide +kernel, by decide +kernel⟩
theorem dv_need_flows {P : Program} {w : World} {K : PySem.W.Frag} {mg : Str → Option Value} {base : Heap} {a : Ad} {b : Bd} (T : Tx K mg a b) (c_is_name : FC P w K mg base 1 b.is_name b.d_is_name ["value"] (@sp_is_name ⟨w⟩ K a)) (c_Table_network : FC P w K mg base 1 b.Table_network b.d_Table_network ["self"] (@sp_Table_network ⟨w⟩ K a)) (c_Network___eq__ : FC P w K mg base 1 b.Network___eq__ b.d_Network___eq__ ["self", "other"] (@sp_Network___eq__ ⟨w⟩ K a)) {A : Around} {cdv : Value} {s : Shared} (hr : Room 2 (A.deeper (PyProof.Rows.envOfC "need_flows" (defScope s_need_flows) s.heap.objs.size b.need_flows cdv))) (outer : List Env) (H : Hp) (E : XK) : PSs (Xb P w K mg base N_need_flows "need_flows" s_need_flows b.need_flows cdv A outer s H E) (defBody s_need_flows) (@t_need_flows ⟨w⟩ K a) := by
  letI : Wld := ⟨w⟩
  have hu := hu_of hr
  have hu64 := hu64_of hr
  unfold t_need_flows
  exact (pss_cons (ps_if (pt_not (pt_truth (pe_cb call_isiX T.b_isinstance PyProof.Rows.boot_isinstance (pa_cons (pv 1) (pa_cons (pe_bty T.b_dict PyProof.Rows.boot_dict) pa_nil))) fun _ => rfl)) (pss_one ps_never) pss_nil) (pss_cons (ps_for PassesOwn.never rfl (pi_keysL (pv 1)) (pg_name (i := 2) sc_need_flows.nd rfl (.inl rfl)) (pss_one (ps_if (pt_not (pt_truth (pe_fn c_is_name hr (by decide) T.f_is_name (pa_cons (pv 2) pa_nil)) fun _ => rfl)) (pss_one ps_never) pss_nil))) (pss_cons (ps_if (pt_not (pt_chain op_le op_le pe_int (pe_cb call_lenX T.b_len PySem.boot_len (pa_cons (pv 1) pa_nil)) (pe_gint T.g_MOST_FLOWS))) (pss_one ps_never) pss_nil) (pss_one (ps_for PassesOwn.never rfl (pi_keysL (pv 1)) (pg_name (i := 2) sc_need_flows.nd rfl (.inl rfl)) (pss_cons (ps_set (i := 3) sc_need_flows.nd rfl (.inl rfl) (pe_ixP hu64 (pv 1) (pv 2))) (pss_cons (ps_if ((pw_or (pt_not (pt_truth (pe_cb call_isiX T.b_isinstance PyProof.Rows.boot_isinstance (pa_cons (pv 3) (pa_cons (pe_bty T.b_tuple PyProof.Rows.boot_tuple) pa_nil))) fun _ => rfl)) (pw_or1 (pt_cmpR (op_neP hu64) (pe_cb call_lenX T.b_len PySem.boot_len (pa_cons (pv 3) pa_nil)) pe_int (nomark _))))).pt (pss_one ps_never) pss_nil) (pss_one (ps_for PassesOwn.never rfl (pi_seq (pv 3)) (pg_name (i := 4) sc_need_flows.nd rfl (.inl rfl)) (pss_one (ps_if ((pw_or (pt_not (pt_truth (pe_cb call_isiX T.b_isinstance PyProof.Rows.boot_isinstance (pa_cons (pv 4) (pa_cons (pe_gcls T.m_Table) pa_nil))) fun _ => rfl)) (pw_or1 (pt_cmpR (op_neO c_Network___eq__ T.eq_Network T.eqf_Network T.ne_Network T.ob_Network (hr.mono (by decide))) (pe_pr c_Table_network hr (by decide) T.tc.c_Table T.pr_Table_network (pv 4)) (pv 0) (nomark _))))).pt (pss_one ps_never) pss_nil)))))))))))
theorem sc_Update___init__ : FnScope N_Update___init__ ["self", "network", "flows"] (defScope s_Update___init__) := ⟨rfl, rfl, rfl, by decide +kernel, rfl, by decide +kernel, by decide +kernel⟩
theorem dv_Update___init__ {P : Program} {w : World} {K : PySem.W.Frag} {mg : Str → Option Value} {base : Heap} {a : Ad} {b : Bd} (T : Tx K mg a b) (c_need_flows : FC P w K mg base 3 b.need_flows b.d_need_flows ["network", "flows"] (@sp_need_flows ⟨w⟩ K a)) {A : Around} {cdv : Value} {s : Shared} (hr : Room 3 (A.deeper (PyProof.Rows.envOfC "Update.__init__" (defScope s_Update___init__) s.heap.objs.size b.Update___init__ cdv))) (outer : List Env) (H : Hp) (E : XK) : PSs (Xb P w K mg base N_Update___init__ "Update.__init__" s_Update___init__ b.Update___init__ cdv A outer s H E) (defBody s_Update___init__) (@t_Update___init__ ⟨w⟩ K a) := by
  letI : Wld := ⟨w⟩
  have hu := hu_of hr
  have hu64 := hu64_of hr
  unfold t_Update___init__
  exact (pss_cons (ps_expr (pe_fn c_need_flows hr (by decide) T.f_need_flows (pa_cons (pv 1) (pa_cons (pv 2) pa_nil)))) (pss_cons (ps_fld (pv 0) (pv 1) rfl) (pss_one (ps_fld (pv 0) (pe_dc (own := [("flow", 4)]) rfl sc_Update___init__.nd (pi_seq (pe_cb call_sortX T.b_sorted PyProof.Rows.boot_sorted (pa_cons (pe_lc (own := [("name", 3)]) rfl sc_Update___init__.nd (pi_keysL (pv 2)) (blkOk_by (N := N_Update___init__) (sc := defScope s_Update___init__) (own := [("name", 3)]) (by decide +kernel)) (fun _ _ _ _ _ => (pg_name (i := 3) sc_Update___init__.nd rfl (.inl rfl))) (fun _ _ _ _ _ => pts_nil) (fun _ _ _ _ _ => (pe_ct call_strX T.b_str PyProof.Rows.boot_str (pa_cons (pv 3) pa_nil)))) pa_nil))) (blkOk_by (N := N_Update___init__) (sc := defScope s_Update___init__) (own := [("flow", 4)]) (by decide +kernel)) (fun _ _ _ _ _ => (pg_name (i := 4) sc_Update___init__.nd rfl (.inl rfl))) (fun _ _ _ _ _ => pts_nil) (fun _ _ _ _ _ => (pv 4)) (fun _ _ _ _ _ => (pe_ixP hu64 (pv 2) (pv 4)))) rfl))))
theorem sc__law_update : FnScope N__law_update ["model"] (defScope s__law_update) := ⟨rfl, rfl, rfl, by decide +kernel, rfl, by decide +kernel, by decide +kernel⟩
theorem dv__law_update {P : Program} {w : World} {K : PySem.W.Frag} {mg : Str → Option Value} {base : Heap} {a : Ad} {b : Bd} (T : Tx K mg a b) (c_Network___init__ : FC P w K mg base 2 b.Network___init__ b.d_Network___init__ ["self", "nodes", "exits"] (@sp_Network___init__ ⟨w⟩ K a)) (c_Table___init__ : FC P w K mg base 5 b.Table___init__ b.d_Table___init__ ["self", "network", "hops"] (@sp_Table___init__ ⟨w⟩ K a)) (c_Update___init__ : FC P w K mg base 4 b.Update___init__ b.d_Update___init__ ["self", "network", "flows"] (@sp_Update___init__ ⟨w⟩ K a)) {A : Around} {cdv : Value} {s : Shared} (hr : Room 6 (A.deeper (PyProof.Rows.envOfC "_law_update" (defScope s__law_update) s.heap.objs.size b._law_update cdv))) (outer : List Env) (H : Hp) (E : XK) : PSs (Xb P w K mg base N__law_update "_law_update" s__law_update b._law_update cdv A outer s H E) (defBody s__law_update) (@t__law_update ⟨w⟩ K a) := by
  letI : Wld := ⟨w⟩
  have hu := hu_of hr
  have hu64 := hu64_of hr
  unfold t__law_update
  exact (pss_cons (ps_par rfl sc__law_update.nd rfl rfl (by decide) rfl rfl (pa_cons (pe_mk c_Network___init__ T.k_Network hr (by decide) T.m_Network (pa_cons (pe_ixP hu64 (pv 0) pe_str) (pa_cons (pe_ixP hu64 (pv 0) pe_str) pa_nil))) (pa_cons pe_dnewK pa_nil)) rfl) (pss_cons (ps_for PassesOwn.never rfl (pi_keysL (pe_ixP hu64 (pv 0) pe_str)) (pg_name (i := 3) sc__law_update.nd rfl (.inl rfl)) (pss_cons (ps_asg (pe_ixP hu64 (pe_ixP hu64 (pv 0) pe_str) (pv 3)) (pg_tup rfl (pgs_cons (pg_name (i := 4) sc__law_update.nd rfl (.inl rfl)) (pgs_cons (pg_name (i := 5) sc__law_update.nd rfl (.inl rfl)) pgs_nil)))) (pss_one (ps_dput hu (pv 2) (pv 3) (pe_tup (pa_cons (pe_mk c_Table___init__ T.k_Table hr (by decide) T.m_Table (pa_cons (pv 1) (pa_cons (pv 4) pa_nil))) (pa_cons (pe_mk c_Table___init__ T.k_Table hr (by decide) T.m_Table (pa_cons (pv 1) (pa_cons (pv 5) pa_nil))) pa_nil))) rfl)))) (pss_one (ps_ret (pe_mk c_Update___init__ T.k_Update hr (by decide) T.m_Update (pa_cons (pv 1) (pa_cons (pv 2) pa_nil)))))))
theorem sc__law_grown : FnScope N__law_grown ["model", "twins", "done"] (defScope s__law_grown) := ⟨rfl, rfl, rfl, by decide +kernel, rfl, by decide +kernel, by decide +kernel⟩
theorem dv__law_grown {P : Program} {w : World} {K : PySem.W.Frag} {mg : Str → Option Value} {base : Heap} {a : Ad} {b : Bd} (T : Tx K mg a b)  {A : Around} {cdv : Value} {s : Shared} (hr : Room 0 (A.deeper (PyProof.Rows.envOfC "_law_grown" (defScope s__law_grown) s.heap.objs.size b._law_grown cdv))) (outer : List Env) (H : Hp) (E : XK) : PSs (Xb P w K mg base N__law_grown "_law_grown" s__law_grown b._law_grown cdv A outer s H E) (defBody s__law_grown) (@t__law_grown ⟨w⟩ K a) := by
  letI : Wld := ⟨w⟩
  have hu := hu_of hr
  have hu64 := hu64_of hr
  unfold t__law_grown
  exact (pss_cons (ps_set (i := 3) sc__law_grown.nd rfl (.inl rfl) (pe_lst (pa_cons (pv 2) pa_nil))) (pss_cons (ps_for PassesOwn.never rfl (pi_seq (pe_ixP hu64 (pv 0) pe_str)) (pg_name (i := 4) sc__law_grown.nd rfl (.inr rfl)) (pss_one (ps_if ((pw_and (pt_cmpR (op_ninX hu64) (pv 4) (pv 1) (by with_unfolding_all rfl)) (pw_and1 (pt_cmpR (op_ninX hu64) (pv 4) (pv 2) (by with_unfolding_all rfl))))).pt (pss_one (ps_set (i := 3) sc__law_grown.nd rfl (.inl rfl) (pe_op op_addX (pv 3) (pe_lc (own := [("part", 5)]) rfl sc__law_grown.nd (pi_seq (pv 3)) (blkOk_by (N := N__law_grown) (sc := defScope s__law_grown) (own := [("part", 5)]) (by decide +kernel)) (fun _ _ _ _ _ => (pg_name (i := 5) sc__law_grown.nd rfl (.inl rfl))) (fun _ _ _ _ _ => pts_nil) (fun _ _ _ _ _ => (pe_ct (call_tupleX rfl) T.b_tuple PyProof.Rows.boot_tuple (pa_cons (pe_cb call_sortX T.b_sorted PyProof.Rows.boot_sorted (pa_cons (pe_lc (own := [("name", 6)]) rfl sc__law_grown.nd (pi_seq (pe_op op_addX (pv 5) (pe_tup (pa_cons (pv 4) pa_nil)))) (blkOk_by (N := N__law_grown) (sc := relS ⟨.function, [(".0", .local), ("part", .local), ("tuple", .globalImplicit), ("sorted", .globalImplicit), ("node", .free)], false, false, []⟩ (defScope s__law_grown)) (own := [("name", 6)]) (by decide +kernel)) (fun _ _ _ _ _ => (pg_name (i := 6) sc__law_grown.nd rfl (.inl rfl))) (fun _ _ _ _ _ => pts_nil) (fun _ _ _ _ _ => (pe_ct call_strX T.b_str PyProof.Rows.boot_str (pa_cons (pv 6) pa_nil)))) pa_nil)) pa_nil))))))) pss_nil))) (pss_one (ps_ret (pv 3)))))
theorem sc__law_read : FnScope N__law_read ["model", "twins", "lane", "node", "done", "stamp"] (defScope s__law_read) := ⟨rfl, rfl, rfl, by decide +kernel, rfl, by decide +kernel, by decide +kernel⟩
theorem dv__law_read {P : Program} {w : World} {K : PySem.W.Frag} {mg : Str → Option Value} {base : Heap} {a : Ad} {b : Bd} (T : Tx K mg a b)  {A : Around} {cdv : Value} {s : Shared} (hr : Room 0 (A.deeper (PyProof.Rows.envOfC "_law_read" (defScope s__law_read) s.heap.objs.size b._law_read cdv))) (outer : List Env) (H : Hp) (E : XK) : PSs (Xb P w K mg base N__law_read "_law_read" s__law_read b._law_read cdv A outer s H E) (defBody s__law_read) (@t__law_read ⟨w⟩ K a) := by
  letI : Wld := ⟨w⟩
  have hu := hu_of hr
  have hu64 := hu64_of hr
  unfold t__law_read
  exact (pss_cons (ps_asg (pe_ixP hu64 (pe_ixP hu64 (pv 0) pe_str) (pv 2)) (pg_tup rfl (pgs_cons (pg_name (i := 6) sc__law_read.nd rfl (.inl rfl)) (pgs_cons (pg_name (i := 7) sc__law_read.nd rfl (.inl rfl)) pgs_nil)))) (pss_cons (ps_if (pt_cmpR (op_inX hu64) (pv 3) (pv 1) (by with_unfolding_all rfl)) (pss_one (ps_ret (pe_ifExp (pt_cmpR (op_eqP hu64) (pv 5) pe_str (nomark _)) (pe_ixP hu64 (pv 6) (pv 3)) (pe_ixP hu64 (pv 7) (pv 3))))) pss_nil) (pss_one (ps_ret (pe_ifExp (pt_cmpR (op_inX hu64) (pv 3) (pv 4) (by with_unfolding_all rfl)) (pe_ixP hu64 (pv 7) (pv 3)) (pe_ixP hu64 (pv 6) (pv 3)))))))
theorem sc__law_all_shown : FnScope N__law_all_shown ["model", "twins", "lane", "most"] (defScope s__law_all_shown) := ⟨rfl, rfl, rfl, by decide +kernel, rfl, by decide +kernel, by decide +kernel⟩
theorem dv__law_all_shown {P : Program} {w : World} {K : PySem.W.Frag} {mg : Str → Option Value} {base : Heap} {a : Ad} {b : Bd} (T : Tx K mg a b) (c__law_grown : FC P w K mg base 1 b._law_grown b.d__law_grown ["model", "twins", "done"] (@sp__law_grown ⟨w⟩ K a)) (c__law_read : FC P w K mg base 1 b._law_read b.d__law_read ["model", "twins", "lane", "node", "done", "stamp"] (@sp__law_read ⟨w⟩ K a)) {A : Around} {cdv : Value} {s : Shared} (hr : Room 1 (A.deeper (PyProof.Rows.envOfC "_law_all_shown" (defScope s__law_all_shown) s.heap.objs.size b._law_all_shown cdv))) (outer : List Env) (H : Hp) (E : XK) : PSs (Xb P w K mg base N__law_all_shown "_law_all_shown" s__law_all_shown b._law_all_shown cdv A outer s H E) (defBody s__law_all_shown) (@t__law_all_shown ⟨w⟩ K a) := by
  letI : Wld := ⟨w⟩
  have hu := hu_of hr
  have hu64 := hu64_of hr
  unfold t__law_all_shown
  exact (pss_cons (ps_par rfl sc__law_all_shown.nd rfl rfl (by decide) rfl rfl (pa_cons pe_dnewN (pa_cons (pe_lst pa_nil) pa_nil)) rfl) (pss_cons (ps_for PassesOwn.never rfl (pi_seq (pe_ixP hu64 (pv 0) pe_str)) (pg_name (i := 6) sc__law_all_shown.nd rfl (.inr rfl)) (pss_one (ps_set (i := 5) sc__law_all_shown.nd rfl (.inl rfl) (pe_op op_addX (pv 5) (pe_lc (own := [("stamp", 7)]) rfl sc__law_all_shown.nd (pi_seq (pe_tup (pa_cons pe_str (pa_cons pe_str pa_nil)))) (blkOk_by (N := N__law_all_shown) (sc := defScope s__law_all_shown) (own := [("stamp", 7)]) (by decide +kernel)) (fun _ _ _ _ _ => (pg_name (i := 7) sc__law_all_shown.nd rfl (.inl rfl))) (fun _ _ _ _ _ => pts_nil) (fun _ _ _ _ _ => (pe_tup (pa_cons (pe_tup (pa_cons (pv 6) pa_nil)) (pa_cons (pe_tup pa_nil) (pa_cons (pv 7) pa_nil)))))))))) (pss_cons (ps_for PassesOwn.never rfl (pi_range1 rfl T.b_range (pa_cons (pv 3) pa_nil)) (pg_name (i := 8) sc__law_all_shown.nd rfl (.inl rfl)) (pss_cons (ps_for PassesOwn.never rfl (pi_seq (pv 5)) (pg_tup rfl (pgs_cons (pg_name (i := 9) sc__law_all_shown.nd rfl (.inl rfl)) (pgs_cons (pg_name (i := 10) sc__law_all_shown.nd rfl (.inl rfl)) (pgs_cons (pg_name (i := 7) sc__law_all_shown.nd rfl (.inl rfl)) pgs_nil)))) (pss_one (ps_dputN hu64 (pv 4) (pv 9) pe_bl rfl))) (pss_cons (ps_set (i := 11) sc__law_all_shown.nd rfl (.inl rfl) pe_dnewN) (pss_cons (ps_for PassesOwn.never rfl (pi_seq (pv 5)) (pg_tup rfl (pgs_cons (pg_name (i := 9) sc__law_all_shown.nd rfl (.inl rfl)) (pgs_cons (pg_name (i := 10) sc__law_all_shown.nd rfl (.inl rfl)) (pgs_cons (pg_name (i := 7) sc__law_all_shown.nd rfl (.inl rfl)) pgs_nil)))) (pss_one (ps_if (pt_cmpR (op_inX hu64) (pe_ixP hu64 (pv 9) (pe_un un_neg pe_int)) (pe_ixP hu64 (pv 0) pe_str) (by with_unfolding_all rfl)) (pss_one (ps_for PassesOwn.never rfl (pi_seq (pe_fn c__law_grown hr (by decide) T.f__law_grown (pa_cons (pv 0) (pa_cons (pv 1) (pa_cons (pv 10) pa_nil))))) (pg_name (i := 12) sc__law_all_shown.nd rfl (.inl rfl)) (pss_one (ps_dputN hu64 (pv 11) (pe_tup (pa_cons (pe_op op_addX (pv 9) (pe_tup (pa_cons (pe_fn c__law_read hr (by decide) T.f__law_read (pa_cons (pv 0) (pa_cons (pv 1) (pa_cons (pv 2) (pa_cons (pe_ixP hu64 (pv 9) (pe_un un_neg pe_int)) (pa_cons (pv 12) (pa_cons (pv 7) pa_nil))))))) pa_nil))) (pa_cons (pv 12) (pa_cons (pv 7) pa_nil)))) pe_bl rfl)))) pss_nil))) (pss_one (ps_set (i := 5) sc__law_all_shown.nd rfl (.inl rfl) (pe_ct (call_listX rfl) T.b_list PyProof.Rows.boot_list (pa_cons (pv 11) pa_nil)))))))) (pss_one (ps_ret (pv 4))))))
theorem sc__law_bent_walk : FnScope N__law_bent_walk ["state", "model", "walk"] (defScope s__law_bent_walk) := ⟨rfl, rfl, rfl, by decide +kernel, rfl, by decide +kernel, by decide +kernel⟩
theorem dv__law_bent_walk {P : Program} {w : World} {K : PySem.W.Frag} {mg : Str → Option Value} {base : Heap} {a : Ad} {b : Bd} (T : Tx K mg a b) (c__law_draw : FC P w K mg base 1 b._law_draw b.d__law_draw ["state", "size"] (@sp__law_draw ⟨w⟩ K a)) (c__law_pick : FC P w K mg base 2 b._law_pick b.d__law_pick ["state", "some"] (@sp__law_pick ⟨w⟩ K a)) {A : Around} {cdv : Value} {s : Shared} (hr : Room 2 (A.deeper (PyProof.Rows.envOfC "_law_bent_walk" (defScope s__law_bent_walk) s.heap.objs.size b._law_bent_walk cdv))) (outer : List Env) (H : Hp) (E : XK) : PSs (Xb P w K mg base N__law_bent_walk "_law_bent_walk" s__law_bent_walk b._law_bent_walk cdv A outer s H E) (defBody s__law_bent_walk) (@t__law_bent_walk ⟨w⟩ K a) := by
  letI : Wld := ⟨w⟩
  have hu := hu_of hr
  have hu64 := hu64_of hr
  unfold t__law_bent_walk
  exact (pss_cons (ps_par rfl sc__law_bent_walk.nd rfl rfl (by decide) rfl rfl (pa_cons (pe_fn c__law_draw hr (by decide) T.f__law_draw (pa_cons (pv 0) (pa_cons (pe_cb call_lenX T.b_len PySem.boot_len (pa_cons (pv 2) pa_nil)) pa_nil))) (pa_cons (pe_op op_addX (pe_op op_addX (pe_ixP hu64 (pv 1) pe_str) (pe_ixP hu64 (pv 1) pe_str)) (pe_lst (pa_cons pe_non pa_nil))) pa_nil)) rfl) (pss_cons (ps_set (i := 5) sc__law_bent_walk.nd rfl (.inl rfl) (pe_op op_addX (pe_op op_addX (pe_slice sl_X (pv 2) po_none (po_some (pv 3))) (pe_tup (pa_cons (pe_fn c__law_pick hr (by decide) T.f__law_pick (pa_cons (pv 0) (pa_cons (pv 4) pa_nil))) pa_nil))) (pe_slice sl_X (pv 2) (po_some (pe_op op_addX (pv 3) pe_int)) po_none))) (pss_cons (ps_setLc (i := 6) (own := [("item", 7)]) rfl sc__law_bent_walk.nd rfl rfl (sw_true rfl rfl rfl (by decide +kernel)) (pi_seq (pe_op op_addX (pe_slice sl_X (pv 5) po_none (po_some pe_int)) (pe_slice sl_X (pv 5) po_none (po_some (pe_un un_neg pe_int))))) (blkOk_by (N := N__law_bent_walk) (sc := defScope s__law_bent_walk) (own := [("item", 7)]) (by decide +kernel)) (fun _ _ _ _ _ => (pg_name (i := 7) sc__law_bent_walk.nd rfl (.inl rfl))) (fun _ _ _ _ _ => (pts_one (pt_cmpR (op_ninX hu64) (pv 7) (pe_ixP hu64 (pv 1) pe_str) (by with_unfolding_all rfl)))) (fun _ _ _ _ _ => (pv 7))) (pss_one (ps_ret (pe_ifExp (pt_cmpR (op_eqP hu64) (pv 6) (pe_lst pa_nil) (nomark _)) (pv 5) (pv 2)))))))
theorem sc__law_any_walk : FnScope N__law_any_walk ["state", "model"] (defScope s__law_any_walk) := ⟨rfl, rfl, rfl, by decide +kernel, rfl, by decide +kernel, by decide +kernel⟩
theorem dv__law_any_walk {P : Program} {w : World} {K : PySem.W.Frag} {mg : Str → Option Value} {base : Heap} {a : Ad} {b : Bd} (T : Tx K mg a b) (c__law_draw : FC P w K mg base 1 b._law_draw b.d__law_draw ["state", "size"] (@sp__law_draw ⟨w⟩ K a)) (c__law_pick : FC P w K mg base 2 b._law_pick b.d__law_pick ["state", "some"] (@sp__law_pick ⟨w⟩ K a)) {A : Around} {cdv : Value} {s : Shared} (hr : Room 2 (A.deeper (PyProof.Rows.envOfC "_law_any_walk" (defScope s__law_any_walk) s.heap.objs.size b._law_any_walk cdv))) (outer : List Env) (H : Hp) (E : XK) : PSs (Xb P w K mg base N__law_any_walk "_law_any_walk" s__law_any_walk b._law_any_walk cdv A outer s H E) (defBody s__law_any_walk) (@t__law_any_walk ⟨w⟩ K a) := by
  letI : Wld := ⟨w⟩
  have hu := hu_of hr
  have hu64 := hu64_of hr
  unfold t__law_any_walk
  exact (pss_cons (ps_setLc (i := 2) (own := [("item", 3)]) rfl sc__law_any_walk.nd rfl rfl (sw_true rfl rfl rfl (by decide +kernel)) (pi_range1 rfl T.b_range (pa_cons (pe_op op_addX pe_int (pe_fn c__law_draw hr (by decide) T.f__law_draw (pa_cons (pv 0) (pa_cons pe_int pa_nil)))) pa_nil)) (blkOk_by (N := N__law_any_walk) (sc := defScope s__law_any_walk) (own := [("item", 3)]) (by decide +kernel)) (fun _ _ _ _ _ => (pg_name (i := 3) sc__law_any_walk.nd rfl (.inl rfl))) (fun _ _ _ _ _ => pts_nil) (fun _ _ _ _ _ => (pe_fn c__law_pick hr (by decide) T.f__law_pick (pa_cons (pv 0) (pa_cons (pe_ixP hu64 (pv 1) pe_str) pa_nil))))) (pss_one (ps_ret (pe_op op_addX (pe_ct (call_tupleX rfl) T.b_tuple PyProof.Rows.boot_tuple (pa_cons (pv 2) pa_nil)) (pe_tup (pa_cons (pe_fn c__law_pick hr (by decide) T.f__law_pick (pa_cons (pv 0) (pa_cons (pe_op op_addX (pe_op op_addX (pe_ixP hu64 (pv 1) pe_str) (pe_ixP hu64 (pv 1) pe_str)) (pe_lst (pa_cons pe_non pa_nil))) pa_nil))) pa_nil))))))
theorem sc_Update_flows : FnScope N_Update_flows ["self"] (defScope s_Update_flows) := ⟨rfl, rfl, rfl, by decide +kernel, rfl, by decide +kernel, by decide +kernel⟩
theorem dv_Update_flows {P : Program} {w : World} {K : PySem.W.Frag} {mg : Str → Option Value} {base : Heap} {a : Ad} {b : Bd} (T : Tx K mg a b)  {A : Around} {cdv : Value} {s : Shared} (hr : Room 0 (A.deeper (PyProof.Rows.envOfC "Update.flows" (defScope s_Update_flows) s.heap.objs.size b.Update_flows cdv))) (outer : List Env) (H : Hp) (E : XK) : PSs (Xb P w K mg base N_Update_flows "Update.flows" s_Update_flows b.Update_flows cdv A outer s H E) (defBody s_Update_flows) (@t_Update_flows ⟨w⟩ K a) := by
  letI : Wld := ⟨w⟩
  have hu := hu_of hr
  have hu64 := hu64_of hr
  unfold t_Update_flows
  exact (pss_one (ps_ret (pe_ct (call_tupleX rfl) T.b_tuple PyProof.Rows.boot_tuple (pa_cons (pe_fld (pv 0) rfl) pa_nil))))
theorem sc_need_flow : FnScope N_need_flow ["update", "flow"] (defScope s_need_flow) := ⟨rfl, rfl, rfl, by decide +kernel, rfl, by decide +kernel, by decide +kernel⟩
theorem dv_need_flow {P : Program} {w : World} {K : PySem.W.Frag} {mg : Str → Option Value} {base : Heap} {a : Ad} {b : Bd} (T : Tx K mg a b) (c_Update_flows : FC P w K mg base 1 b.Update_flows b.d_Update_flows ["self"] (@sp_Update_flows ⟨w⟩ K a)) {A : Around} {cdv : Value} {s : Shared} (hr : Room 2 (A.deeper (PyProof.Rows.envOfC "need_flow" (defScope s_need_flow) s.heap.objs.size b.need_flow cdv))) (outer : List Env) (H : Hp) (E : XK) : PSs (Xb P w K mg base N_need_flow "need_flow" s_need_flow b.need_flow cdv A outer s H E) (defBody s_need_flow) (@t_need_flow ⟨w⟩ K a) := by
  letI : Wld := ⟨w⟩
  have hu := hu_of hr
  have hu64 := hu64_of hr
  unfold t_need_flow
  exact (pss_one (ps_if ((pw_or (pt_not (pt_truth (pe_cb call_isiX T.b_isinstance PyProof.Rows.boot_isinstance (pa_cons (pv 1) (pa_cons (pe_bty T.b_str PyProof.Rows.boot_str) pa_nil))) fun _ => rfl)) (pw_or1 (pt_cmpR (op_ninX hu64) (pv 1) (pe_pr c_Update_flows hr (by decide) T.tc.c_Update T.pr_Update_flows (pv 0)) (by with_unfolding_all rfl))))).pt (pss_one ps_never) pss_nil))
theorem sc_Update_network : FnScope N_Update_network ["self"] (defScope s_Update_network) := ⟨rfl, rfl, rfl, by decide +kernel, rfl, by decide +kernel, by decide +kernel⟩
theorem dv_Update_network {P : Program} {w : World} {K : PySem.W.Frag} {mg : Str → Option Value} {base : Heap} {a : Ad} {b : Bd} (T : Tx K mg a b)  {A : Around} {cdv : Value} {s : Shared} (hr : Room 0 (A.deeper (PyProof.Rows.envOfC "Update.network" (defScope s_Update_network) s.heap.objs.size b.Update_network cdv))) (outer : List Env) (H : Hp) (E : XK) : PSs (Xb P w K mg base N_Update_network "Update.network" s_Update_network b.Update_network cdv A outer s H E) (defBody s_Update_network) (@t_Update_network ⟨w⟩ K a) := by
  letI : Wld := ⟨w⟩
  have hu := hu_of hr
  have hu64 := hu64_of hr
  unfold t_Update_network
  exact (pss_one (ps_ret (pe_fld (pv 0) rfl)))
theorem sc_need_doubles : FnScope N_need_doubles ["update", "doubles"] (defScope s_need_doubles) := ⟨rfl, rfl, rfl, by decide +kernel, rfl, by decide +kernel, by decide +kernel⟩
theorem dv_need_doubles {P : Program} {w : World} {K : PySem.W.Frag} {mg : Str → Option Value} {base : Heap} {a : Ad} {b : Bd} (T : Tx K mg a b) (c_is_node : FC P w K mg base 3 b.is_node b.d_is_node ["network", "value"] (@sp_is_node ⟨w⟩ K a)) (c_Update_network : FC P w K mg base 1 b.Update_network b.d_Update_network ["self"] (@sp_Update_network ⟨w⟩ K a)) {A : Around} {cdv : Value} {s : Shared} (hr : Room 3 (A.deeper (PyProof.Rows.envOfC "need_doubles" (defScope s_need_doubles) s.heap.objs.size b.need_doubles cdv))) (outer : List Env) (H : Hp) (E : XK) : PSs (Xb P w K mg base N_need_doubles "need_doubles" s_need_doubles b.need_doubles cdv A outer s H E) (defBody s_need_doubles) (@t_need_doubles ⟨w⟩ K a) := by
  letI : Wld := ⟨w⟩
  have hu := hu_of hr
  have hu64 := hu64_of hr
  unfold t_need_doubles
  exact (pss_cons (ps_if (pt_not (pt_truth (pe_cb call_isiX T.b_isinstance PyProof.Rows.boot_isinstance (pa_cons (pv 1) (pa_cons (pe_tup (pa_cons (pe_bty T.b_list PyProof.Rows.boot_list) (pa_cons (pe_bty T.b_tuple PyProof.Rows.boot_tuple) pa_nil))) pa_nil))) fun _ => rfl)) (pss_one ps_never) pss_nil) (pss_one (ps_for PassesOwn.never rfl (pi_enumS rfl T.b_enumerate (pa_cons (pv 1) pa_nil)) (pg_tup rfl (pgs_cons (pg_name (i := 2) sc_need_doubles.nd rfl (.inl rfl)) (pgs_cons (pg_name (i := 3) sc_need_doubles.nd rfl (.inl rfl)) pgs_nil))) (pss_one (ps_if ((pw_or (pt_not (pt_truth (pe_fn c_is_node hr (by decide) T.f_is_node (pa_cons (pe_pr c_Update_network hr (by decide) T.tc.c_Update T.pr_Update_network (pv 0)) (pa_cons (pv 3) pa_nil))) fun _ => rfl)) (pw_or1 (pt_cmpR (op_inX hu64) (pv 3) (pe_slice sl_X (pv 1) po_none (po_some (pv 2))) (by with_unfolding_all rfl))))).pt (pss_one ps_never) pss_nil)))))
theorem sc_is_walk : FnScope N_is_walk ["network", "value"] (defScope s_is_walk) := ⟨rfl, rfl, rfl, by decide +kernel, rfl, by decide +kernel, by decide +kernel⟩
theorem dv_is_walk {P : Program} {w : World} {K : PySem.W.Frag} {mg : Str → Option Value} {base : Heap} {a : Ad} {b : Bd} (T : Tx K mg a b) (c_is_node : FC P w K mg base 3 b.is_node b.d_is_node ["network", "value"] (@sp_is_node ⟨w⟩ K a)) (c_is_hop : FC P w K mg base 4 b.is_hop b.d_is_hop ["network", "value"] (@sp_is_hop ⟨w⟩ K a)) {A : Around} {cdv : Value} {s : Shared} (hr : Room 4 (A.deeper (PyProof.Rows.envOfC "is_walk" (defScope s_is_walk) s.heap.objs.size b.is_walk cdv))) (outer : List Env) (H : Hp) (E : XK) : PSs (Xb P w K mg base N_is_walk "is_walk" s_is_walk b.is_walk cdv A outer s H E) (defBody s_is_walk) (@t_is_walk ⟨w⟩ K a) := by
  letI : Wld := ⟨w⟩
  have hu := hu_of hr
  have hu64 := hu64_of hr
  unfold t_is_walk
  exact (pss_cons (ps_if ((pw_or (pt_not (pt_truth (pe_cb call_isiX T.b_isinstance PyProof.Rows.boot_isinstance (pa_cons (pv 1) (pa_cons (pe_bty T.b_tuple PyProof.Rows.boot_tuple) pa_nil))) fun _ => rfl)) (pw_or (pt_not (pt_chain op_le op_le pe_int (pe_cb call_lenX T.b_len PySem.boot_len (pa_cons (pv 1) pa_nil)) (pe_gint T.g_MOST_ITEMS))) (pw_or1 (pt_not (pt_truth (pe_fn c_is_node hr (by decide) T.f_is_node (pa_cons (pv 0) (pa_cons (pe_ixP hu64 (pv 1) pe_int) pa_nil))) fun _ => rfl)))))).pt (pss_one (ps_ret pe_bl)) pss_nil) (pss_cons (ps_if (pt_cmpR (op_neP hu64) (pe_lc (own := [("item", 2)]) rfl sc_is_walk.nd (pi_seq (pe_slice sl_X (pv 1) po_none (po_some (pe_un un_neg pe_int)))) (blkOk_by (N := N_is_walk) (sc := defScope s_is_walk) (own := [("item", 2)]) (by decide +kernel)) (fun _ _ _ _ _ => (pg_name (i := 2) sc_is_walk.nd rfl (.inl rfl))) (fun _ _ _ _ _ => (pts_one (pt_not (pt_truth (pe_fn c_is_node hr (by decide) T.f_is_node (pa_cons (pv 0) (pa_cons (pv 2) pa_nil))) fun _ => rfl)))) (fun _ _ _ _ _ => (pv 2))) (pe_lst pa_nil) (nomark _)) (pss_one (ps_ret pe_bl)) pss_nil) (pss_one (ps_ret (pe_fn c_is_hop hr (by decide) T.f_is_hop (pa_cons (pv 0) (pa_cons (pe_ixP hu64 (pv 1) (pe_un un_neg pe_int)) pa_nil)))))))
theorem sc_need_walk : FnScope N_need_walk ["update", "walk"] (defScope s_need_walk) := ⟨rfl, rfl, rfl, by decide +kernel, rfl, by decide +kernel, by decide +kernel⟩
theorem dv_need_walk {P : Program} {w : World} {K : PySem.W.Frag} {mg : Str → Option Value} {base : Heap} {a : Ad} {b : Bd} (T : Tx K mg a b) (c_is_walk : FC P w K mg base 5 b.is_walk b.d_is_walk ["network", "value"] (@sp_is_walk ⟨w⟩ K a)) (c_Update_network : FC P w K mg base 1 b.Update_network b.d_Update_network ["self"] (@sp_Update_network ⟨w⟩ K a)) {A : Around} {cdv : Value} {s : Shared} (hr : Room 5 (A.deeper (PyProof.Rows.envOfC "need_walk" (defScope s_need_walk) s.heap.objs.size b.need_walk cdv))) (outer : List Env) (H : Hp) (E : XK) : PSs (Xb P w K mg base N_need_walk "need_walk" s_need_walk b.need_walk cdv A outer s H E) (defBody s_need_walk) (@t_need_walk ⟨w⟩ K a) := by
  letI : Wld := ⟨w⟩
  have hu := hu_of hr
  have hu64 := hu64_of hr
  unfold t_need_walk
  exact (pss_one (ps_if (pt_not (pt_truth (pe_fn c_is_walk hr (by decide) T.f_is_walk (pa_cons (pe_pr c_Update_network hr (by decide) T.tc.c_Update T.pr_Update_network (pv 0)) (pa_cons (pv 1) pa_nil))) fun _ => rfl)) (pss_one ps_never) pss_nil))
theorem sc_need_all : FnScope N_need_all ["update", "flow", "doubles", "walk"] (defScope s_need_all) := ⟨rfl, rfl, rfl, by decide +kernel, rfl, by decide +kernel, by decide +kernel⟩
theorem dv_need_all {P : Program} {w : World} {K : PySem.W.Frag} {mg : Str → Option Value} {base : Heap} {a : Ad} {b : Bd} (T : Tx K mg a b) (c_need_flow : FC P w K mg base 3 b.need_flow b.d_need_flow ["update", "flow"] (@sp_need_flow ⟨w⟩ K a)) (c_need_doubles : FC P w K mg base 4 b.need_doubles b.d_need_doubles ["update", "doubles"] (@sp_need_doubles ⟨w⟩ K a)) (c_need_walk : FC P w K mg base 6 b.need_walk b.d_need_walk ["update", "walk"] (@sp_need_walk ⟨w⟩ K a)) {A : Around} {cdv : Value} {s : Shared} (hr : Room 6 (A.deeper (PyProof.Rows.envOfC "need_all" (defScope s_need_all) s.heap.objs.size b.need_all cdv))) (outer : List Env) (H : Hp) (E : XK) : PSs (Xb P w K mg base N_need_all "need_all" s_need_all b.need_all cdv A outer s H E) (defBody s_need_all) (@t_need_all ⟨w⟩ K a) := by
  letI : Wld := ⟨w⟩
  have hu := hu_of hr
  have hu64 := hu64_of hr
  unfold t_need_all
  exact (pss_cons (ps_expr (pe_fn c_need_flow hr (by decide) T.f_need_flow (pa_cons (pv 0) (pa_cons (pv 1) pa_nil)))) (pss_cons (ps_expr (pe_fn c_need_doubles hr (by decide) T.f_need_doubles (pa_cons (pv 0) (pa_cons (pv 2) pa_nil)))) (pss_one (ps_expr (pe_fn c_need_walk hr (by decide) T.f_need_walk (pa_cons (pv 0) (pa_cons (pv 3) pa_nil)))))))
theorem sc_Update_old : FnScope N_Update_old ["self", "flow"] (defScope s_Update_old) := ⟨rfl, rfl, rfl, by decide +kernel, rfl, by decide +kernel, by decide +kernel⟩
theorem dv_Update_old {P : Program} {w : World} {K : PySem.W.Frag} {mg : Str → Option Value} {base : Heap} {a : Ad} {b : Bd} (T : Tx K mg a b) (c_need_flow : FC P w K mg base 3 b.need_flow b.d_need_flow ["update", "flow"] (@sp_need_flow ⟨w⟩ K a)) {A : Around} {cdv : Value} {s : Shared} (hr : Room 3 (A.deeper (PyProof.Rows.envOfC "Update.old" (defScope s_Update_old) s.heap.objs.size b.Update_old cdv))) (outer : List Env) (H : Hp) (E : XK) : PSs (Xb P w K mg base N_Update_old "Update.old" s_Update_old b.Update_old cdv A outer s H E) (defBody s_Update_old) (@t_Update_old ⟨w⟩ K a) := by
  letI : Wld := ⟨w⟩
  have hu := hu_of hr
  have hu64 := hu64_of hr
  unfold t_Update_old
  exact (pss_cons (ps_expr (pe_fn c_need_flow hr (by decide) T.f_need_flow (pa_cons (pv 0) (pa_cons (pv 1) pa_nil)))) (pss_one (ps_ret (pe_ixP hu64 (pe_ixP hu64 (pe_fld (pv 0) rfl) (pv 1)) pe_int))))
theorem sc_Table___getitem__ : FnScope N_Table___getitem__ ["self", "node"] (defScope s_Table___getitem__) := ⟨rfl, rfl, rfl, by decide +kernel, rfl, by decide +kernel, by decide +kernel⟩
theorem dv_Table___getitem__ {P : Program} {w : World} {K : PySem.W.Frag} {mg : Str → Option Value} {base : Heap} {a : Ad} {b : Bd} (T : Tx K mg a b) (c_is_node : FC P w K mg base 3 b.is_node b.d_is_node ["network", "value"] (@sp_is_node ⟨w⟩ K a)) {A : Around} {cdv : Value} {s : Shared} (hr : Room 3 (A.deeper (PyProof.Rows.envOfC "Table.__getitem__" (defScope s_Table___getitem__) s.heap.objs.size b.Table___getitem__ cdv))) (outer : List Env) (H : Hp) (E : XK) : PSs (Xb P w K mg base N_Table___getitem__ "Table.__getitem__" s_Table___getitem__ b.Table___getitem__ cdv A outer s H E) (defBody s_Table___getitem__) (@t_Table___getitem__ ⟨w⟩ K a) := by
  letI : Wld := ⟨w⟩
  have hu := hu_of hr
  have hu64 := hu64_of hr
  unfold t_Table___getitem__
  exact (pss_cons (ps_if (pt_not (pt_truth (pe_fn c_is_node hr (by decide) T.f_is_node (pa_cons (pe_fld (pv 0) rfl) (pa_cons (pv 1) pa_nil))) fun _ => rfl)) (pss_one ps_never) pss_nil) (pss_one (ps_ret (pe_ixP hu64 (pe_fld (pv 0) rfl) (pv 1)))))
theorem sc_Plan_step_of : FnScope N_Plan_step_of ["self", "node"] (defScope s_Plan_step_of) := ⟨rfl, rfl, rfl, by decide +kernel, rfl, by decide +kernel, by decide +kernel⟩
theorem dv_Plan_step_of {P : Program} {w : World} {K : PySem.W.Frag} {mg : Str → Option Value} {base : Heap} {a : Ad} {b : Bd} (T : Tx K mg a b)  {A : Around} {cdv : Value} {s : Shared} (hr : Room 0 (A.deeper (PyProof.Rows.envOfC "Plan.step_of" (defScope s_Plan_step_of) s.heap.objs.size b.Plan_step_of cdv))) (outer : List Env) (H : Hp) (E : XK) : PSs (Xb P w K mg base N_Plan_step_of "Plan.step_of" s_Plan_step_of b.Plan_step_of cdv A outer s H E) (defBody s_Plan_step_of) (@t_Plan_step_of ⟨w⟩ K a) := by
  letI : Wld := ⟨w⟩
  have hu := hu_of hr
  have hu64 := hu64_of hr
  unfold t_Plan_step_of
  exact (pss_one (ps_ret (pe_ifExp ((pw_and (pt_truth (pe_cb call_isiX T.b_isinstance PyProof.Rows.boot_isinstance (pa_cons (pv 1) (pa_cons (pe_bty T.b_str PyProof.Rows.boot_str) pa_nil))) fun _ => rfl) (pw_and1 (pt_cmpR (op_inX hu64) (pv 1) (pe_fld (pv 0) rfl) (by with_unfolding_all rfl))))).pt (pe_ixP hu64 (pe_fld (pv 0) rfl) (pv 1)) pe_non)))
theorem sc_Update_new : FnScope N_Update_new ["self", "flow"] (defScope s_Update_new) := ⟨rfl, rfl, rfl, by decide +kernel, rfl, by decide +kernel, by decide +kernel⟩
theorem dv_Update_new {P : Program} {w : World} {K : PySem.W.Frag} {mg : Str → Option Value} {base : Heap} {a : Ad} {b : Bd} (T : Tx K mg a b) (c_need_flow : FC P w K mg base 3 b.need_flow b.d_need_flow ["update", "flow"] (@sp_need_flow ⟨w⟩ K a)) {A : Around} {cdv : Value} {s : Shared} (hr : Room 3 (A.deeper (PyProof.Rows.envOfC "Update.new" (defScope s_Update_new) s.heap.objs.size b.Update_new cdv))) (outer : List Env) (H : Hp) (E : XK) : PSs (Xb P w K mg base N_Update_new "Update.new" s_Update_new b.Update_new cdv A outer s H E) (defBody s_Update_new) (@t_Update_new ⟨w⟩ K a) := by
  letI : Wld := ⟨w⟩
  have hu := hu_of hr
  have hu64 := hu64_of hr
  unfold t_Update_new
  exact (pss_cons (ps_expr (pe_fn c_need_flow hr (by decide) T.f_need_flow (pa_cons (pv 0) (pa_cons (pv 1) pa_nil)))) (pss_one (ps_ret (pe_ixP hu64 (pe_ixP hu64 (pe_fld (pv 0) rfl) (pv 1)) pe_int))))
theorem sc_word_of : FnScope N_word_of ["update", "flow", "plan", "node", "hop"] (defScope s_word_of) := ⟨rfl, rfl, rfl, by decide +kernel, rfl, by decide +kernel, by decide +kernel⟩
theorem dv_word_of {P : Program} {w : World} {K : PySem.W.Frag} {mg : Str → Option Value} {base : Heap} {a : Ad} {b : Bd} (T : Tx K mg a b) (c_Update_old : FC P w K mg base 4 b.Update_old b.d_Update_old ["self", "flow"] (@sp_Update_old ⟨w⟩ K a)) (c_Table___getitem__ : FC P w K mg base 4 b.Table___getitem__ b.d_Table___getitem__ ["self", "node"] (@sp_Table___getitem__ ⟨w⟩ K a)) (c_Plan_step_of : FC P w K mg base 1 b.Plan_step_of b.d_Plan_step_of ["self", "node"] (@sp_Plan_step_of ⟨w⟩ K a)) (c_Update_new : FC P w K mg base 4 b.Update_new b.d_Update_new ["self", "flow"] (@sp_Update_new ⟨w⟩ K a)) {A : Around} {cdv : Value} {s : Shared} (hr : Room 5 (A.deeper (PyProof.Rows.envOfC "word_of" (defScope s_word_of) s.heap.objs.size b.word_of cdv))) (outer : List Env) (H : Hp) (E : XK) : PSs (Xb P w K mg base N_word_of "word_of" s_word_of b.word_of cdv A outer s H E) (defBody s_word_of) (@t_word_of ⟨w⟩ K a) := by
  letI : Wld := ⟨w⟩
  have hu := hu_of hr
  have hu64 := hu64_of hr
  unfold t_word_of
  exact (pss_cons (ps_set (i := 5) sc_word_of.nd rfl (.inl rfl) (pe_ixC hu64 c_Table___getitem__ hr (by decide) T.tc.c_Table T.ge_Table (pe_me c_Update_old hr (by decide) T.tc.c_Update T.me_Update_old (pv 0) (pa_cons (pv 1) pa_nil)) (pv 3))) (pss_cons (ps_set (i := 6) sc_word_of.nd rfl (.inl rfl) (pe_ifExp (pt_cmpR op_isN (pe_me c_Plan_step_of hr (by decide) T.tc.c_Plan T.me_Plan_step_of (pv 2) (pa_cons (pv 3) pa_nil)) pe_non (nomark _)) (pv 5) (pe_ixC hu64 c_Table___getitem__ hr (by decide) T.tc.c_Table T.ge_Table (pe_me c_Update_new hr (by decide) T.tc.c_Update T.me_Update_new (pv 0) (pa_cons (pv 1) pa_nil)) (pv 3)))) (pss_cons (ps_if (pt_cmpR (op_eqP hu64) (pv 4) (pv 5) (nomark _)) (pss_one (ps_ret (pe_ifExp (pt_cmpR (op_eqP hu64) (pv 4) (pv 6) (nomark _)) pe_str pe_str))) pss_nil) (pss_one (ps_ret (pe_ifExp (pt_cmpR (op_eqP hu64) (pv 4) (pv 6) (nomark _)) pe_str pe_str))))))
theorem sc_seen_words : FnScope N_seen_words ["update", "flow", "plan", "walk"] (defScope s_seen_words) := ⟨rfl, rfl, rfl, by decide +kernel, rfl, by decide +kernel, by decide +kernel⟩
theorem dv_seen_words {P : Program} {w : World} {K : PySem.W.Frag} {mg : Str → Option Value} {base : Heap} {a : Ad} {b : Bd} (T : Tx K mg a b) (c_word_of : FC P w K mg base 6 b.word_of b.d_word_of ["update", "flow", "plan", "node", "hop"] (@sp_word_of ⟨w⟩ K a)) {A : Around} {cdv : Value} {s : Shared} (hr : Room 6 (A.deeper (PyProof.Rows.envOfC "seen_words" (defScope s_seen_words) s.heap.objs.size b.seen_words cdv))) (outer : List Env) (H : Hp) (E : XK) : PSs (Xb P w K mg base N_seen_words "seen_words" s_seen_words b.seen_words cdv A outer s H E) (defBody s_seen_words) (@t_seen_words ⟨w⟩ K a) := by
  letI : Wld := ⟨w⟩
  have hu := hu_of hr
  have hu64 := hu64_of hr
  unfold t_seen_words
  exact (pss_one (ps_ret (pe_lc (own := [("node", 4), ("hop", 5)]) rfl sc_seen_words.nd (pi_zipS rfl T.b_zip (pa_cons (pv 3) (pa_cons (pe_slice sl_X (pv 3) (po_some pe_int) po_none) pa_nil))) (blkOk_by (N := N_seen_words) (sc := defScope s_seen_words) (own := [("node", 4), ("hop", 5)]) (by decide +kernel)) (fun _ _ _ _ _ => (pg_tup rfl (pgs_cons (pg_name (i := 4) sc_seen_words.nd rfl (.inl rfl)) (pgs_cons (pg_name (i := 5) sc_seen_words.nd rfl (.inl rfl)) pgs_nil)))) (fun _ _ _ _ _ => pts_nil) (fun _ _ _ _ _ => (pe_fn c_word_of hr (by decide) T.f_word_of (pa_cons (pv 0) (pa_cons (pv 1) (pa_cons (pv 2) (pa_cons (pv 4) (pa_cons (pv 5) pa_nil))))))))))
theorem sc_need_steps : FnScope N_need_steps ["steps"] (defScope s_need_steps) := ⟨rfl, rfl, rfl, by decide +kernel, rfl, by decide +kernel, by decide +kernel⟩
theorem dv_need_steps {P : Program} {w : World} {K : PySem.W.Frag} {mg : Str → Option Value} {base : Heap} {a : Ad} {b : Bd} (T : Tx K mg a b) (c_is_name : FC P w K mg base 1 b.is_name b.d_is_name ["value"] (@sp_is_name ⟨w⟩ K a)) {A : Around} {cdv : Value} {s : Shared} (hr : Room 1 (A.deeper (PyProof.Rows.envOfC "need_steps" (defScope s_need_steps) s.heap.objs.size b.need_steps cdv))) (outer : List Env) (H : Hp) (E : XK) : PSs (Xb P w K mg base N_need_steps "need_steps" s_need_steps b.need_steps cdv A outer s H E) (defBody s_need_steps) (@t_need_steps ⟨w⟩ K a) := by
  letI : Wld := ⟨w⟩
  have hu := hu_of hr
  have hu64 := hu64_of hr
  unfold t_need_steps
  exact (pss_cons (ps_if (pt_not (pt_truth (pe_cb call_isiX T.b_isinstance PyProof.Rows.boot_isinstance (pa_cons (pv 0) (pa_cons (pe_tup (pa_cons (pe_bty T.b_list PyProof.Rows.boot_list) (pa_cons (pe_bty T.b_tuple PyProof.Rows.boot_tuple) pa_nil))) pa_nil))) fun _ => rfl)) (pss_one ps_never) pss_nil) (pss_cons (ps_set (i := 1) sc_need_steps.nd rfl (.inl rfl) (pe_lst pa_nil)) (pss_one (ps_for PassesOwn.never rfl (pi_seq (pv 0)) (pg_name (i := 2) sc_need_steps.nd rfl (.inl rfl)) (pss_cons (ps_if ((pw_or (pt_not (pt_truth (pe_cb call_isiX T.b_isinstance PyProof.Rows.boot_isinstance (pa_cons (pv 2) (pa_cons (pe_tup (pa_cons (pe_bty T.b_list PyProof.Rows.boot_list) (pa_cons (pe_bty T.b_tuple PyProof.Rows.boot_tuple) pa_nil))) pa_nil))) fun _ => rfl)) (pw_or1 (pt_cmpR (op_eqP hu64) (pe_cb call_lenX T.b_len PySem.boot_len (pa_cons (pv 2) pa_nil)) pe_int (nomark _))))).pt (pss_one ps_never) pss_nil) (pss_one (ps_for PassesOwn.never rfl (pi_seq (pv 2)) (pg_name (i := 3) sc_need_steps.nd rfl (.inl rfl)) (pss_cons (ps_if ((pw_or (pt_not (pt_truth (pe_fn c_is_name hr (by decide) T.f_is_name (pa_cons (pv 3) pa_nil)) fun _ => rfl)) (pw_or1 (pt_cmpR (op_inX hu64) (pv 3) (pv 1) (by with_unfolding_all rfl))))).pt (pss_one ps_never) pss_nil) (pss_one (ps_expr (pe_bm PySem.F.plainAttrs_list PySem.F.slot_list_append PySem.F.type_list_append mt_append (pv 1) (pa_cons (pv 3) pa_nil))))))))))))
theorem sc_need_waits : FnScope N_need_waits ["many", "waits"] (defScope s_need_waits) := ⟨rfl, rfl, rfl, by decide +kernel, rfl, by decide +kernel, by decide +kernel⟩
theorem dv_need_waits {P : Program} {w : World} {K : PySem.W.Frag} {mg : Str → Option Value} {base : Heap} {a : Ad} {b : Bd} (T : Tx K mg a b)  {A : Around} {cdv : Value} {s : Shared} (hr : Room 0 (A.deeper (PyProof.Rows.envOfC "need_waits" (defScope s_need_waits) s.heap.objs.size b.need_waits cdv))) (outer : List Env) (H : Hp) (E : XK) : PSs (Xb P w K mg base N_need_waits "need_waits" s_need_waits b.need_waits cdv A outer s H E) (defBody s_need_waits) (@t_need_waits ⟨w⟩ K a) := by
  letI : Wld := ⟨w⟩
  have hu := hu_of hr
  have hu64 := hu64_of hr
  unfold t_need_waits
  exact (pss_cons (ps_if (pt_not (pt_truth (pe_cb call_isiX T.b_isinstance PyProof.Rows.boot_isinstance (pa_cons (pv 1) (pa_cons (pe_tup (pa_cons (pe_bty T.b_list PyProof.Rows.boot_list) (pa_cons (pe_bty T.b_tuple PyProof.Rows.boot_tuple) pa_nil))) pa_nil))) fun _ => rfl)) (pss_one ps_never) pss_nil) (pss_cons (ps_set (i := 2) sc_need_waits.nd rfl (.inl rfl) (pe_lst pa_nil)) (pss_one (ps_for PassesOwn.never rfl (pi_seq (pv 1)) (pg_name (i := 3) sc_need_waits.nd rfl (.inl rfl)) (pss_cons (ps_if ((pw_or (pt_not (pt_truth (pe_cb call_isiX T.b_isinstance PyProof.Rows.boot_isinstance (pa_cons (pv 3) (pa_cons (pe_bty T.b_int PyProof.Rows.boot_int) pa_nil))) fun _ => rfl)) (pw_or (pt_truth (pe_cb call_isiX T.b_isinstance PyProof.Rows.boot_isinstance (pa_cons (pv 3) (pa_cons (pe_bty T.b_bool PyProof.Rows.boot_bool) pa_nil))) fun _ => rfl) (pw_or (pt_not (pt_chain op_le op_ltX pe_int (pv 3) (pe_op op_sub (pv 0) pe_int))) (pw_or1 (pt_cmpR (op_inX hu64) (pv 3) (pv 2) (by with_unfolding_all rfl))))))).pt (pss_one ps_never) pss_nil) (pss_one (ps_expr (pe_bm PySem.F.plainAttrs_list PySem.F.slot_list_append PySem.F.type_list_append mt_append (pv 2) (pa_cons (pv 3) pa_nil)))))))))
theorem sc_Plan___init__ : FnScope N_Plan___init__ ["self", "steps", "waits"] (defScope s_Plan___init__) := ⟨rfl, rfl, rfl, by decide +kernel, rfl, by decide +kernel, by decide +kernel⟩
theorem dv_Plan___init__ {P : Program} {w : World} {K : PySem.W.Frag} {mg : Str → Option Value} {base : Heap} {a : Ad} {b : Bd} (T : Tx K mg a b) (c_need_steps : FC P w K mg base 2 b.need_steps b.d_need_steps ["steps"] (@sp_need_steps ⟨w⟩ K a)) (c_need_waits : FC P w K mg base 1 b.need_waits b.d_need_waits ["many", "waits"] (@sp_need_waits ⟨w⟩ K a)) {A : Around} {cdv : Value} {s : Shared} (hr : Room 2 (A.deeper (PyProof.Rows.envOfC "Plan.__init__" (defScope s_Plan___init__) s.heap.objs.size b.Plan___init__ cdv))) (outer : List Env) (H : Hp) (E : XK) : PSs (Xb P w K mg base N_Plan___init__ "Plan.__init__" s_Plan___init__ b.Plan___init__ cdv A outer s H E) (defBody s_Plan___init__) (@t_Plan___init__ ⟨w⟩ K a) := by
  letI : Wld := ⟨w⟩
  have hu := hu_of hr
  have hu64 := hu64_of hr
  unfold t_Plan___init__
  exact (pss_cons (ps_expr (pe_fn c_need_steps hr (by decide) T.f_need_steps (pa_cons (pv 1) pa_nil))) (pss_cons (ps_expr (pe_fn c_need_waits hr (by decide) T.f_need_waits (pa_cons (pe_cb call_lenX T.b_len PySem.boot_len (pa_cons (pv 1) pa_nil)) (pa_cons (pv 2) pa_nil)))) (pss_cons (ps_fld (pv 0) (pe_ct (call_tupleX rfl) T.b_tuple PyProof.Rows.boot_tuple (pa_cons (pe_lc (own := [("step", 3)]) rfl sc_Plan___init__.nd (pi_seq (pv 1)) (blkOk_by (N := N_Plan___init__) (sc := defScope s_Plan___init__) (own := [("step", 3)]) (by decide +kernel)) (fun _ _ _ _ _ => (pg_name (i := 3) sc_Plan___init__.nd rfl (.inl rfl))) (fun _ _ _ _ _ => pts_nil) (fun _ _ _ _ _ => (pe_ct (call_tupleX rfl) T.b_tuple PyProof.Rows.boot_tuple (pa_cons (pe_cb call_sortX T.b_sorted PyProof.Rows.boot_sorted (pa_cons (pe_lc (own := [("name", 4)]) rfl sc_Plan___init__.nd (pi_seq (pv 3)) (blkOk_by (N := N_Plan___init__) (sc := relS ⟨.function, [(".0", .local), ("step", .local), ("tuple", .globalImplicit), ("sorted", .globalImplicit)], false, false, []⟩ (defScope s_Plan___init__)) (own := [("name", 4)]) (by decide +kernel)) (fun _ _ _ _ _ => (pg_name (i := 4) sc_Plan___init__.nd rfl (.inl rfl))) (fun _ _ _ _ _ => pts_nil) (fun _ _ _ _ _ => (pe_ct call_strX T.b_str PyProof.Rows.boot_str (pa_cons (pv 4) pa_nil)))) pa_nil)) pa_nil)))) pa_nil)) rfl) (pss_cons (ps_fld (pv 0) (pe_ct (call_tupleX rfl) T.b_tuple PyProof.Rows.boot_tuple (pa_cons (pe_cb call_sortX T.b_sorted PyProof.Rows.boot_sorted (pa_cons (pe_lc (own := [("wait", 5)]) rfl sc_Plan___init__.nd (pi_seq (pv 2)) (blkOk_by (N := N_Plan___init__) (sc := defScope s_Plan___init__) (own := [("wait", 5)]) (by decide +kernel)) (fun _ _ _ _ _ => (pg_name (i := 5) sc_Plan___init__.nd rfl (.inl rfl))) (fun _ _ _ _ _ => pts_nil) (fun _ _ _ _ _ => (pe_ct call_intX T.b_int PyProof.Rows.boot_int (pa_cons (pv 5) pa_nil)))) pa_nil)) pa_nil)) rfl) (pss_one (ps_fld (pv 0) (pe_dc2 (own := [("number", 6), ("row", 7), ("name", 4)]) (v2 := [4]) rfl sc_Plan___init__.nd (pi_enumS rfl T.b_enumerate (pa_cons (pe_fld (pv 0) rfl) pa_nil)) (blkOk_by (N := N_Plan___init__) (sc := defScope s_Plan___init__) (own := [("number", 6), ("row", 7), ("name", 4)]) (by decide +kernel)) (by decide) (fun _ _ _ _ _ => (pg_tup rfl (pgs_cons (pg_name (i := 6) sc_Plan___init__.nd rfl (.inl rfl)) (pgs_cons (pg_name (i := 7) sc_Plan___init__.nd rfl (.inl rfl)) pgs_nil)))) (fun _ _ _ _ _ => (pi_seq (pv 7))) (fun _ _ _ _ _ => (pg_name (i := 4) sc_Plan___init__.nd rfl (.inl rfl))) (fun _ _ _ _ _ => (pv 4)) (fun _ _ _ _ _ => (pv 6))) rfl))))))
theorem sc_whole_plan : FnScope N_whole_plan ["update"] (defScope s_whole_plan) := ⟨rfl, rfl, rfl, by decide +kernel, rfl, by decide +kernel, by decide +kernel⟩
theorem dv_whole_plan {P : Program} {w : World} {K : PySem.W.Frag} {mg : Str → Option Value} {base : Heap} {a : Ad} {b : Bd} (T : Tx K mg a b) (c_Plan___init__ : FP P w K mg base 3 b.Plan___init__ b.d_Plan___init__ ["self", "steps", "waits"] (@sp_Plan___init__ ⟨w⟩ K a)) (c_Update_network : FC P w K mg base 1 b.Update_network b.d_Update_network ["self"] (@sp_Update_network ⟨w⟩ K a)) (c_Network_nodes : FC P w K mg base 1 b.Network_nodes b.d_Network_nodes ["self"] (@sp_Network_nodes ⟨w⟩ K a)) {A : Around} {cdv : Value} {s : Shared} (hr : Room 4 (A.deeper (PyProof.Rows.envOfC "whole_plan" (defScope s_whole_plan) s.heap.objs.size b.whole_plan cdv))) (outer : List Env) (H : Hp) (E : XK) : PSs (Xb P w K mg base N_whole_plan "whole_plan" s_whole_plan b.whole_plan cdv A outer s H E) (defBody s_whole_plan) (@t_whole_plan ⟨w⟩ K a) := by
  letI : Wld := ⟨w⟩
  have hu := hu_of hr
  have hu64 := hu64_of hr
  unfold t_whole_plan
  exact (pss_one (ps_ret (pe_mkD c_Plan___init__.ok T.bd_Plan.2 T.bd_Plan.1 T.k_Plan hr (by decide) T.m_Plan (pa_cons (pe_lst (pa_cons (pe_ct (call_listX rfl) T.b_list PyProof.Rows.boot_list (pa_cons (pe_pr c_Network_nodes hr (by decide) T.tc.c_Network T.pr_Network_nodes (pe_pr c_Update_network hr (by decide) T.tc.c_Update T.pr_Update_network (pv 0))) pa_nil)) pa_nil)) pa_nil))))
theorem sc_stamped : FnScope N_stamped ["doubles", "memory", "word", "node"] (defScope s_stamped) := ⟨rfl, rfl, rfl, by decide +kernel, rfl, by decide +kernel, by decide +kernel⟩
theorem dv_stamped {P : Program} {w : World} {K : PySem.W.Frag} {mg : Str → Option Value} {base : Heap} {a : Ad} {b : Bd} (T : Tx K mg a b)  {A : Around} {cdv : Value} {s : Shared} (hr : Room 0 (A.deeper (PyProof.Rows.envOfC "stamped" (defScope s_stamped) s.heap.objs.size b.stamped cdv))) (outer : List Env) (H : Hp) (E : XK) : PSs (Xb P w K mg base N_stamped "stamped" s_stamped b.stamped cdv A outer s H E) (defBody s_stamped) (@t_stamped ⟨w⟩ K a) := by
  letI : Wld := ⟨w⟩
  have hu := hu_of hr
  have hu64 := hu64_of hr
  unfold t_stamped
  exact (pss_cons (ps_asg (pv 1) (pg_tup rfl (pgs_cons (pg_name (i := 4) sc_stamped.nd rfl (.inl rfl)) (pgs_cons (pg_name (i := 5) sc_stamped.nd rfl (.inl rfl)) pgs_nil)))) (pss_cons (ps_if ((pw_or (pt_cmpR (op_eqP hu64) (pv 2) pe_str (nomark _)) (pw_or1 (pt_cmpR (op_eqP hu64) (pv 2) pe_str (nomark _))))).pt (pss_one (ps_ret (pe_ifExp (pt_cmpR (op_eqP hu64) (pv 2) pe_str (nomark _)) (pv 1) pe_non))) pss_nil) (pss_cons (ps_if (pt_cmpR (op_inX hu64) (pv 3) (pv 0) (by with_unfolding_all rfl)) (pss_one (ps_ret (pe_ifExp (pt_cmpR (op_inX hu64) (pv 4) (pe_tup (pa_cons pe_str (pa_cons (pv 2) pa_nil))) (by with_unfolding_all rfl)) (pe_tup (pa_cons (pv 2) (pa_cons (pv 5) pa_nil))) pe_non))) pss_nil) (pss_cons (ps_if (pt_cmpR (op_eqP hu64) (pv 2) pe_str (nomark _)) (pss_one (ps_ret (pe_ifExp (pt_cmpR (op_inX hu64) (pv 3) (pv 5) (by with_unfolding_all rfl)) pe_non (pv 1)))) pss_nil) (pss_one (ps_ret (pe_tup (pa_cons (pv 4) (pa_cons (pe_ct (call_tupleX rfl) T.b_tuple PyProof.Rows.boot_tuple (pa_cons (pe_cb call_sortX T.b_sorted PyProof.Rows.boot_sorted (pa_cons (pe_lc (own := [("name", 7)]) rfl sc_stamped.nd (pi_keysL (pe_dc (own := [("one", 6)]) rfl sc_stamped.nd (pi_seq (pe_tup (StX.pa_star (pv 5) (pa_cons (pv 3) pa_nil)))) (blkOk_by (N := N_stamped) (sc := defScope s_stamped) (own := [("one", 6)]) (by decide +kernel)) (fun _ _ _ _ _ => (pg_name (i := 6) sc_stamped.nd rfl (.inl rfl))) (fun _ _ _ _ _ => pts_nil) (fun _ _ _ _ _ => (pv 6)) (fun _ _ _ _ _ => pe_bl))) (blkOk_by (N := N_stamped) (sc := defScope s_stamped) (own := [("name", 7)]) (by decide +kernel)) (fun _ _ _ _ _ => (pg_name (i := 7) sc_stamped.nd rfl (.inl rfl))) (fun _ _ _ _ _ => pts_nil) (fun _ _ _ _ _ => (pe_ct call_strX T.b_str PyProof.Rows.boot_str (pa_cons (pv 7) pa_nil)))) pa_nil)) pa_nil)) pa_nil)))))))))
theorem sc_memory_behind : FnScope N_memory_behind ["update", "flow", "doubles", "walk"] (defScope s_memory_behind) := ⟨rfl, rfl, rfl, by decide +kernel, rfl, by decide +kernel, by decide +kernel⟩
theorem dv_memory_behind {P : Program} {w : World} {K : PySem.W.Frag} {mg : Str → Option Value} {base : Heap} {a : Ad} {b : Bd} (T : Tx K mg a b) (c_seen_words : FC P w K mg base 7 b.seen_words b.d_seen_words ["update", "flow", "plan", "walk"] (@sp_seen_words ⟨w⟩ K a)) (c_whole_plan : FC P w K mg base 5 b.whole_plan b.d_whole_plan ["update"] (@sp_whole_plan ⟨w⟩ K a)) (c_stamped : FC P w K mg base 1 b.stamped b.d_stamped ["doubles", "memory", "word", "node"] (@sp_stamped ⟨w⟩ K a)) {A : Around} {cdv : Value} {s : Shared} (hr : Room 7 (A.deeper (PyProof.Rows.envOfC "memory_behind" (defScope s_memory_behind) s.heap.objs.size b.memory_behind cdv))) (outer : List Env) (H : Hp) (E : XK) : PSs (Xb P w K mg base N_memory_behind "memory_behind" s_memory_behind b.memory_behind cdv A outer s H E) (defBody s_memory_behind) (@t_memory_behind ⟨w⟩ K a) := by
  letI : Wld := ⟨w⟩
  have hu := hu_of hr
  have hu64 := hu64_of hr
  unfold t_memory_behind
  exact (pss_cons (ps_set (i := 4) sc_memory_behind.nd rfl (.inl rfl) (pe_tup (pa_cons pe_str (pa_cons (pe_tup pa_nil) pa_nil)))) (pss_cons (ps_for PassesOwn.never rfl (pi_zipS rfl T.b_zip (pa_cons (pe_fn c_seen_words hr (by decide) T.f_seen_words (pa_cons (pv 0) (pa_cons (pv 1) (pa_cons (pe_fn c_whole_plan hr (by decide) T.f_whole_plan (pa_cons (pv 0) pa_nil)) (pa_cons (pv 3) pa_nil))))) (pa_cons (pv 3) pa_nil))) (pg_tup rfl (pgs_cons (pg_name (i := 5) sc_memory_behind.nd rfl (.inl rfl)) (pgs_cons (pg_name (i := 6) sc_memory_behind.nd rfl (.inl rfl)) pgs_nil))) (pss_cons (ps_set (i := 4) sc_memory_behind.nd rfl (.inl rfl) (pe_fn c_stamped hr (by decide) T.f_stamped (pa_cons (pv 2) (pa_cons (pv 4) (pa_cons (pv 5) (pa_cons (pv 6) pa_nil)))))) (pss_one (ps_if (pt_cmpR op_isN (pv 4) pe_non (nomark _)) (pss_one (ps_ret pe_non)) pss_nil)))) (pss_one (ps_ret (pv 4)))))
theorem sc_is_possible_with : FnScope N_is_possible_with ["update", "flow", "doubles", "walk"] (defScope s_is_possible_with) := ⟨rfl, rfl, rfl, by decide +kernel, rfl, by decide +kernel, by decide +kernel⟩
theorem dv_is_possible_with {P : Program} {w : World} {K : PySem.W.Frag} {mg : Str → Option Value} {base : Heap} {a : Ad} {b : Bd} (T : Tx K mg a b) (c_need_all : FC P w K mg base 7 b.need_all b.d_need_all ["update", "flow", "doubles", "walk"] (@sp_need_all ⟨w⟩ K a)) (c_memory_behind : FC P w K mg base 8 b.memory_behind b.d_memory_behind ["update", "flow", "doubles", "walk"] (@sp_memory_behind ⟨w⟩ K a)) {A : Around} {cdv : Value} {s : Shared} (hr : Room 8 (A.deeper (PyProof.Rows.envOfC "is_possible_with" (defScope s_is_possible_with) s.heap.objs.size b.is_possible_with cdv))) (outer : List Env) (H : Hp) (E : XK) : PSs (Xb P w K mg base N_is_possible_with "is_possible_with" s_is_possible_with b.is_possible_with cdv A outer s H E) (defBody s_is_possible_with) (@t_is_possible_with ⟨w⟩ K a) := by
  letI : Wld := ⟨w⟩
  have hu := hu_of hr
  have hu64 := hu64_of hr
  unfold t_is_possible_with
  exact (pss_cons (ps_expr (pe_fn c_need_all hr (by decide) T.f_need_all (pa_cons (pv 0) (pa_cons (pv 1) (pa_cons (pv 2) (pa_cons (pv 3) pa_nil)))))) (pss_one (ps_ret (pe_cmpR op_notN (pe_fn c_memory_behind hr (by decide) T.f_memory_behind (pa_cons (pv 0) (pa_cons (pv 1) (pa_cons (pv 2) (pa_cons (pv 3) pa_nil))))) pe_non (nomark _)))))
theorem sc_law : FnScope N_law ["script"] (defScope s_law) := ⟨rfl, rfl, rfl, by decide +kernel, rfl, by decide +kernel, by decide +kernel⟩
theorem dv_law {P : Program} {w : World} {K : PySem.W.Frag} {mg : Str → Option Value} {base : Heap} {a : Ad} {b : Bd} (T : Tx K mg a b) (c__law_begin : FC P w K mg base 1 b._law_begin b.d__law_begin ["cell", "turn"] (@sp__law_begin ⟨w⟩ K a)) (c__law_shape : FC P w K mg base 6 b._law_shape b.d__law_shape ["state", "most", "flows"] (@sp__law_shape ⟨w⟩ K a)) (c__law_pick : FC P w K mg base 2 b._law_pick b.d__law_pick ["state", "some"] (@sp__law_pick ⟨w⟩ K a)) (c__law_update : FC P w K mg base 7 b._law_update b.d__law_update ["model"] (@sp__law_update ⟨w⟩ K a)) (c__law_all_shown : FC P w K mg base 2 b._law_all_shown b.d__law_all_shown ["model", "twins", "lane", "most"] (@sp__law_all_shown ⟨w⟩ K a)) (c__law_mixed : FC P w K mg base 2 b._law_mixed b.d__law_mixed ["state", "some"] (@sp__law_mixed ⟨w⟩ K a)) (c__law_bent_walk : FC P w K mg base 3 b._law_bent_walk b.d__law_bent_walk ["state", "model", "walk"] (@sp__law_bent_walk ⟨w⟩ K a)) (c__law_any_walk : FC P w K mg base 3 b._law_any_walk b.d__law_any_walk ["state", "model"] (@sp__law_any_walk ⟨w⟩ K a)) (c_is_possible_with : FC P w K mg base 9 b.is_possible_with b.d_is_possible_with ["update", "flow", "doubles", "walk"] (@sp_is_possible_with ⟨w⟩ K a)) {A : Around} {cdv : Value} {s : Shared} (hg : (A.deeper (PyProof.Rows.envOfC "law" (defScope s_law) s.heap.objs.size b.law cdv)).guards = some []) (hr : Room 9 (A.deeper (PyProof.Rows.envOfC "law" (defScope s_law) s.heap.objs.size b.law cdv))) (outer : List Env) (H : Hp) (E : XK) : PSs (Xb P w K mg base N_law "law" s_law b.law cdv A outer s H E) (defBody s_law) (@t_law ⟨w⟩ K a) := by
  letI : Wld := ⟨w⟩
  have hu := hu_of hr
  have hu64 := hu64_of hr
  unfold t_law
  exact (pss_cons (ps_for PassesOwn.never rfl (pi_enumS rfl T.b_enumerate (pa_cons (pe_slice sl_X (pe_orT (pv 0) (pe_one (pe_lst (pa_cons pe_int pa_nil)))) po_none (po_some pe_int)) pa_nil)) (pg_tup rfl (pgs_cons (pg_name (i := 1) sc_law.nd rfl (.inl rfl)) (pgs_cons (pg_name (i := 2) sc_law.nd rfl (.inl rfl)) pgs_nil))) (pss_cons (ps_set (i := 3) sc_law.nd rfl (.inr rfl) (pe_fn c__law_begin hr (by decide) T.f__law_begin (pa_cons (pv 2) (pa_cons (pv 1) pa_nil)))) (pss_cons (ps_asg (pe_fn c__law_shape hr (by decide) T.f__law_shape (pa_cons (pv 3) (pa_cons pe_int (pa_cons pe_int pa_nil)))) (pg_unl rfl (pgs_cons (pg_name (i := 4) sc_law.nd rfl (.inr rfl)) (pgs_cons (pg_name (i := 5) sc_law.nd rfl (.inl rfl)) pgs_nil)))) (pss_cons (ps_par rfl sc_law.nd rfl rfl (by decide) rfl rfl (pa_cons (pe_fn c__law_update hr (by decide) T.f__law_update (pa_cons (pv 4) pa_nil)) (pa_cons (pe_fn c__law_pick hr (by decide) T.f__law_pick (pa_cons (pv 3) (pa_cons (pe_ct (call_listX rfl) T.b_list PyProof.Rows.boot_list (pa_cons (pe_ixP hu64 (pv 4) pe_str) pa_nil)) pa_nil))) pa_nil)) rfl) (pss_cons (ps_set (i := 8) sc_law.nd rfl (.inl rfl) (pe_fn c__law_all_shown hr (by decide) T.f__law_all_shown (pa_cons (pv 4) (pa_cons (pv 5) (pa_cons (pv 7) (pa_cons pe_int pa_nil)))))) (pss_cons (ps_set (i := 9) sc_law.nd rfl (.inl rfl) (pe_slice sl_X (pe_fn c__law_mixed hr (by decide) T.f__law_mixed (pa_cons (pv 3) (pa_cons (pe_ct (call_listX rfl) T.b_list PyProof.Rows.boot_list (pa_cons (pv 8) pa_nil)) pa_nil))) po_none (po_some pe_int))) (pss_cons (ps_set (i := 9) sc_law.nd rfl (.inl rfl) (pe_op op_addX (pv 9) (pe_lc (own := [("walk", 10)]) rfl sc_law.nd (pi_seq (pv 9)) (blkOk_by (N := N_law) (sc := defScope s_law) (own := [("walk", 10)]) (by decide +kernel)) (fun _ _ _ _ _ => (pg_name (i := 10) sc_law.nd rfl (.inl rfl))) (fun _ _ _ _ _ => pts_nil) (fun _ _ _ _ _ => (pe_fn c__law_bent_walk hr (by decide) T.f__law_bent_walk (pa_cons (pv 3) (pa_cons (pv 4) (pa_cons (pv 10) pa_nil)))))))) (pss_one (ps_for PassesOwn.never rfl (pi_seq (pe_op op_addX (pv 9) (pe_lc (own := [("lap", 13)]) rfl sc_law.nd (pi_range1 rfl T.b_range (pa_cons pe_int pa_nil)) (blkOk_by (N := N_law) (sc := defScope s_law) (own := [("lap", 13)]) (by decide +kernel)) (fun _ _ _ _ _ => (pg_name (i := 13) sc_law.nd rfl (.inl rfl))) (fun _ _ _ _ _ => pts_nil) (fun _ _ _ _ _ => (pe_fn c__law_any_walk hr (by decide) T.f__law_any_walk (pa_cons (pv 3) (pa_cons (pv 4) pa_nil))))))) (pg_name (i := 10) sc_law.nd rfl (.inl rfl)) (pss_cons (ps_set (i := 11) sc_law.nd rfl (.inl rfl) (pe_cb (call_reprD hg hu64) T.b_repr PyProof.Rows.boot_repr (pa_cons (pv 5) pa_nil))) (pss_cons (ps_set (i := 12) sc_law.nd rfl (.inl rfl) (pe_lst (pa_cons (pe_fn c_is_possible_with hr (by decide) T.f_is_possible_with (pa_cons (pv 6) (pa_cons (pv 7) (pa_cons (pv 5) (pa_cons (pv 10) pa_nil))))) pa_nil))) (pss_cons (ps_expr (pe_bm PySem.F.plainAttrs_list PySem.F.slot_list_append PySem.F.type_list_append mt_append (pv 12) (pa_cons (pe_fnN1 c_is_possible_with T.kb_is_possible_with_3210 rfl hr (by decide) T.f_is_possible_with (pk_cons (pv 10) (pk_cons (pe_ct (call_tupleX rfl) T.b_tuple PyProof.Rows.boot_tuple (pa_cons (pe_revX (pv 5)) pa_nil)) (pk_cons (pv 7) (pk_cons (pv 6) pk_nil))))) pa_nil))) (pss_one (ps_if ((pw_or (pt_cmpR (op_neP hu64) (pe_cb (call_reprD hg hu64) T.b_repr PyProof.Rows.boot_repr (pa_cons (pv 12) pa_nil)) (pe_cb (call_reprD hg hu64) T.b_repr PyProof.Rows.boot_repr (pa_cons (pe_op op_mulX (pe_lst (pa_cons (pe_cmpR (op_inX hu64) (pv 10) (pv 8) (by with_unfolding_all rfl)) pa_nil)) pe_int) pa_nil)) (nomark _)) (pw_or1 (pt_cmpR (op_neP hu64) (pe_cb (call_reprD hg hu64) T.b_repr PyProof.Rows.boot_repr (pa_cons (pv 5) pa_nil)) (pv 11) (nomark _))))).pt (pss_one (ps_ret pe_bl)) pss_nil)))))))))))))) (pss_one (ps_ret pe_bl)))
end DL
set_option Elab.async false
set_option linter.all false
set_option maxRecDepth 100000
set_option maxHeartbeats 4000000
namespace DL
open PySem L2
section
variable {P : Program} {w : World} {K : PySem.W.Frag} {mg : Str → Option Value} {base : Heap} {a : Ad} {b : Bd}
theorem c__law_begin (T : Tx K mg a b) : FC P w K mg base 1 b._law_begin b.d__law_begin ["cell", "turn"] (@sp__law_begin ⟨w⟩ K a) :=
  letI : Wld := ⟨w⟩; FC.ofT T.d__law_begin sc__law_begin (fun vs H Q E h => by obtain ⟨m, B, c, k, _, _, hs, _⟩ := h; rw [hs.length]; rfl) (fun hr => dv__law_begin T hr) (bd__law_begin T.tc)
theorem c__law_draw (T : Tx K mg a b) : FC P w K mg base 1 b._law_draw b.d__law_draw ["state", "size"] (@sp__law_draw ⟨w⟩ K a) :=
  letI : Wld := ⟨w⟩; FC.ofT T.d__law_draw sc__law_draw (fun vs H Q E h => spF_len (fun ds P c => by unfold C_law_draw at c; first | (obtain ⟨rfl, _⟩ := c; rfl) | (obtain ⟨_, rfl, _⟩ := c; rfl) | (obtain ⟨_, _, rfl, _⟩ := c; rfl) | (obtain ⟨_, _, _, rfl, _⟩ := c; rfl) | (obtain ⟨_, _, _, _, rfl, _⟩ := c; rfl) | (obtain ⟨_, _, _, _, _, rfl, _⟩ := c; rfl) | (obtain ⟨_, _, _, _, _, _, rfl, _⟩ := c; rfl) | (obtain ⟨_, _, _, _, _, _, _, rfl, _⟩ := c; rfl) | (obtain ⟨_, _, _, _, _, _, _, _, rfl, _⟩ := c; rfl) | (obtain ⟨_, _, _, _, _, _, _, _, _, rfl, _⟩ := c; rfl) | (obtain ⟨_, _, _, _, _, _, _, _, _, _, rfl, _⟩ := c; rfl) | (obtain ⟨_, _, _, _, _, _, _, _, _, _, _, rfl, _⟩ := c; rfl) | (obtain ⟨_, _, _, _, _, _, _, _, _, _, _, _, rfl, _⟩ := c; rfl) | (obtain ⟨_, _, _, _, _, _, _, _, _, _, _, _, _, rfl, _⟩ := c; rfl) | (obtain ⟨_, rfl⟩ := c; rfl) | (obtain ⟨_, _, rfl⟩ := c; rfl) | (obtain ⟨_, _, _, rfl⟩ := c; rfl) | (obtain ⟨_, _, _, _, rfl⟩ := c; rfl) | (obtain ⟨_, _, _, _, _, rfl⟩ := c; rfl) | (obtain ⟨_, _, _, _, _, _, rfl⟩ := c; rfl) | (obtain ⟨_, _, _, _, _, _, _, rfl⟩ := c; rfl) | (obtain ⟨_, _, _, _, _, _, _, _, rfl⟩ := c; rfl) | (obtain ⟨_, _, _, _, _, _, _, _, _, rfl⟩ := c; rfl) | (obtain ⟨_, _, _, _, _, _, _, _, _, _, rfl⟩ := c; rfl) | (obtain ⟨_, _, _, _, _, _, _, _, _, _, _, rfl⟩ := c; rfl)) h) (fun hr => dv__law_draw T hr) (bd__law_draw T.tc)
theorem c__law_pick (T : Tx K mg a b) : FC P w K mg base 2 b._law_pick b.d__law_pick ["state", "some"] (@sp__law_pick ⟨w⟩ K a) :=
  letI : Wld := ⟨w⟩; FC.ofT T.d__law_pick sc__law_pick (fun vs H Q E h => spF_len (fun ds P c => by unfold C_law_pick at c; first | (obtain ⟨rfl, _⟩ := c; rfl) | (obtain ⟨_, rfl, _⟩ := c; rfl) | (obtain ⟨_, _, rfl, _⟩ := c; rfl) | (obtain ⟨_, _, _, rfl, _⟩ := c; rfl) | (obtain ⟨_, _, _, _, rfl, _⟩ := c; rfl) | (obtain ⟨_, _, _, _, _, rfl, _⟩ := c; rfl) | (obtain ⟨_, _, _, _, _, _, rfl, _⟩ := c; rfl) | (obtain ⟨_, _, _, _, _, _, _, rfl, _⟩ := c; rfl) | (obtain ⟨_, _, _, _, _, _, _, _, rfl, _⟩ := c; rfl) | (obtain ⟨_, _, _, _, _, _, _, _, _, rfl, _⟩ := c; rfl) | (obtain ⟨_, _, _, _, _, _, _, _, _, _, rfl, _⟩ := c; rfl) | (obtain ⟨_, _, _, _, _, _, _, _, _, _, _, rfl, _⟩ := c; rfl) | (obtain ⟨_, _, _, _, _, _, _, _, _, _, _, _, rfl, _⟩ := c; rfl) | (obtain ⟨_, _, _, _, _, _, _, _, _, _, _, _, _, rfl, _⟩ := c; rfl) | (obtain ⟨_, rfl⟩ := c; rfl) | (obtain ⟨_, _, rfl⟩ := c; rfl) | (obtain ⟨_, _, _, rfl⟩ := c; rfl) | (obtain ⟨_, _, _, _, rfl⟩ := c; rfl) | (obtain ⟨_, _, _, _, _, rfl⟩ := c; rfl) | (obtain ⟨_, _, _, _, _, _, rfl⟩ := c; rfl) | (obtain ⟨_, _, _, _, _, _, _, rfl⟩ := c; rfl) | (obtain ⟨_, _, _, _, _, _, _, _, rfl⟩ := c; rfl) | (obtain ⟨_, _, _, _, _, _, _, _, _, rfl⟩ := c; rfl) | (obtain ⟨_, _, _, _, _, _, _, _, _, _, rfl⟩ := c; rfl) | (obtain ⟨_, _, _, _, _, _, _, _, _, _, _, rfl⟩ := c; rfl)) h) (fun hr => dv__law_pick T (c__law_draw T) hr) (bd__law_pick T.tc)
theorem c__law_names (T : Tx K mg a b) : FC P w K mg base 3 b._law_names b.d__law_names ["state", "many"] (@sp__law_names ⟨w⟩ K a) :=
  letI : Wld := ⟨w⟩; FC.ofT T.d__law_names sc__law_names (fun vs H Q E h => spF_len (fun ds P c => by unfold C_law_names at c; first | (obtain ⟨rfl, _⟩ := c; rfl) | (obtain ⟨_, rfl, _⟩ := c; rfl) | (obtain ⟨_, _, rfl, _⟩ := c; rfl) | (obtain ⟨_, _, _, rfl, _⟩ := c; rfl) | (obtain ⟨_, _, _, _, rfl, _⟩ := c; rfl) | (obtain ⟨_, _, _, _, _, rfl, _⟩ := c; rfl) | (obtain ⟨_, _, _, _, _, _, rfl, _⟩ := c; rfl) | (obtain ⟨_, _, _, _, _, _, _, rfl, _⟩ := c; rfl) | (obtain ⟨_, _, _, _, _, _, _, _, rfl, _⟩ := c; rfl) | (obtain ⟨_, _, _, _, _, _, _, _, _, rfl, _⟩ := c; rfl) | (obtain ⟨_, _, _, _, _, _, _, _, _, _, rfl, _⟩ := c; rfl) | (obtain ⟨_, _, _, _, _, _, _, _, _, _, _, rfl, _⟩ := c; rfl) | (obtain ⟨_, _, _, _, _, _, _, _, _, _, _, _, rfl, _⟩ := c; rfl) | (obtain ⟨_, _, _, _, _, _, _, _, _, _, _, _, _, rfl, _⟩ := c; rfl) | (obtain ⟨_, rfl⟩ := c; rfl) | (obtain ⟨_, _, rfl⟩ := c; rfl) | (obtain ⟨_, _, _, rfl⟩ := c; rfl) | (obtain ⟨_, _, _, _, rfl⟩ := c; rfl) | (obtain ⟨_, _, _, _, _, rfl⟩ := c; rfl) | (obtain ⟨_, _, _, _, _, _, rfl⟩ := c; rfl) | (obtain ⟨_, _, _, _, _, _, _, rfl⟩ := c; rfl) | (obtain ⟨_, _, _, _, _, _, _, _, rfl⟩ := c; rfl) | (obtain ⟨_, _, _, _, _, _, _, _, _, rfl⟩ := c; rfl) | (obtain ⟨_, _, _, _, _, _, _, _, _, _, rfl⟩ := c; rfl) | (obtain ⟨_, _, _, _, _, _, _, _, _, _, _, rfl⟩ := c; rfl)) h) (fun hr => dv__law_names T (c__law_draw T) (c__law_pick T) hr) (bd__law_names T.tc)
theorem c__law_mixed (T : Tx K mg a b) : FC P w K mg base 2 b._law_mixed b.d__law_mixed ["state", "some"] (@sp__law_mixed ⟨w⟩ K a) :=
  letI : Wld := ⟨w⟩; FC.ofT T.d__law_mixed sc__law_mixed (fun vs H Q E h => spF_len (fun ds P c => by unfold C_law_mixed at c; first | (obtain ⟨rfl, _⟩ := c; rfl) | (obtain ⟨_, rfl, _⟩ := c; rfl) | (obtain ⟨_, _, rfl, _⟩ := c; rfl) | (obtain ⟨_, _, _, rfl, _⟩ := c; rfl) | (obtain ⟨_, _, _, _, rfl, _⟩ := c; rfl) | (obtain ⟨_, _, _, _, _, rfl, _⟩ := c; rfl) | (obtain ⟨_, _, _, _, _, _, rfl, _⟩ := c; rfl) | (obtain ⟨_, _, _, _, _, _, _, rfl, _⟩ := c; rfl) | (obtain ⟨_, _, _, _, _, _, _, _, rfl, _⟩ := c; rfl) | (obtain ⟨_, _, _, _, _, _, _, _, _, rfl, _⟩ := c; rfl) | (obtain ⟨_, _, _, _, _, _, _, _, _, _, rfl, _⟩ := c; rfl) | (obtain ⟨_, _, _, _, _, _, _, _, _, _, _, rfl, _⟩ := c; rfl) | (obtain ⟨_, _, _, _, _, _, _, _, _, _, _, _, rfl, _⟩ := c; rfl) | (obtain ⟨_, _, _, _, _, _, _, _, _, _, _, _, _, rfl, _⟩ := c; rfl) | (obtain ⟨_, rfl⟩ := c; rfl) | (obtain ⟨_, _, rfl⟩ := c; rfl) | (obtain ⟨_, _, _, rfl⟩ := c; rfl) | (obtain ⟨_, _, _, _, rfl⟩ := c; rfl) | (obtain ⟨_, _, _, _, _, rfl⟩ := c; rfl) | (obtain ⟨_, _, _, _, _, _, rfl⟩ := c; rfl) | (obtain ⟨_, _, _, _, _, _, _, rfl⟩ := c; rfl) | (obtain ⟨_, _, _, _, _, _, _, _, rfl⟩ := c; rfl) | (obtain ⟨_, _, _, _, _, _, _, _, _, rfl⟩ := c; rfl) | (obtain ⟨_, _, _, _, _, _, _, _, _, _, rfl⟩ := c; rfl) | (obtain ⟨_, _, _, _, _, _, _, _, _, _, _, rfl⟩ := c; rfl)) h) (fun hr => dv__law_mixed T (c__law_draw T) hr) (bd__law_mixed T.tc)
theorem c__law_hop (T : Tx K mg a b) : FC P w K mg base 3 b._law_hop b.d__law_hop ["state", "later", "every"] (@sp__law_hop ⟨w⟩ K a) :=
  letI : Wld := ⟨w⟩; FC.ofT T.d__law_hop sc__law_hop (fun vs H Q E h => spF_len (fun ds P c => by unfold C_law_hop at c; first | (obtain ⟨rfl, _⟩ := c; rfl) | (obtain ⟨_, rfl, _⟩ := c; rfl) | (obtain ⟨_, _, rfl, _⟩ := c; rfl) | (obtain ⟨_, _, _, rfl, _⟩ := c; rfl) | (obtain ⟨_, _, _, _, rfl, _⟩ := c; rfl) | (obtain ⟨_, _, _, _, _, rfl, _⟩ := c; rfl) | (obtain ⟨_, _, _, _, _, _, rfl, _⟩ := c; rfl) | (obtain ⟨_, _, _, _, _, _, _, rfl, _⟩ := c; rfl) | (obtain ⟨_, _, _, _, _, _, _, _, rfl, _⟩ := c; rfl) | (obtain ⟨_, _, _, _, _, _, _, _, _, rfl, _⟩ := c; rfl) | (obtain ⟨_, _, _, _, _, _, _, _, _, _, rfl, _⟩ := c; rfl) | (obtain ⟨_, _, _, _, _, _, _, _, _, _, _, rfl, _⟩ := c; rfl) | (obtain ⟨_, _, _, _, _, _, _, _, _, _, _, _, rfl, _⟩ := c; rfl) | (obtain ⟨_, _, _, _, _, _, _, _, _, _, _, _, _, rfl, _⟩ := c; rfl) | (obtain ⟨_, rfl⟩ := c; rfl) | (obtain ⟨_, _, rfl⟩ := c; rfl) | (obtain ⟨_, _, _, rfl⟩ := c; rfl) | (obtain ⟨_, _, _, _, rfl⟩ := c; rfl) | (obtain ⟨_, _, _, _, _, rfl⟩ := c; rfl) | (obtain ⟨_, _, _, _, _, _, rfl⟩ := c; rfl) | (obtain ⟨_, _, _, _, _, _, _, rfl⟩ := c; rfl) | (obtain ⟨_, _, _, _, _, _, _, _, rfl⟩ := c; rfl) | (obtain ⟨_, _, _, _, _, _, _, _, _, rfl⟩ := c; rfl) | (obtain ⟨_, _, _, _, _, _, _, _, _, _, rfl⟩ := c; rfl) | (obtain ⟨_, _, _, _, _, _, _, _, _, _, _, rfl⟩ := c; rfl)) h) (fun hr => dv__law_hop T (c__law_draw T) (c__law_pick T) hr) (bd__law_hop T.tc)
theorem c__law_flow (T : Tx K mg a b) : FC P w K mg base 4 b._law_flow b.d__law_flow ["state", "nodes", "exits"] (@sp__law_flow ⟨w⟩ K a) :=
  letI : Wld := ⟨w⟩; FC.ofT T.d__law_flow sc__law_flow (fun vs H Q E h => spF_len (fun ds P c => by unfold C_law_flow at c; first | (obtain ⟨rfl, _⟩ := c; rfl) | (obtain ⟨_, rfl, _⟩ := c; rfl) | (obtain ⟨_, _, rfl, _⟩ := c; rfl) | (obtain ⟨_, _, _, rfl, _⟩ := c; rfl) | (obtain ⟨_, _, _, _, rfl, _⟩ := c; rfl) | (obtain ⟨_, _, _, _, _, rfl, _⟩ := c; rfl) | (obtain ⟨_, _, _, _, _, _, rfl, _⟩ := c; rfl) | (obtain ⟨_, _, _, _, _, _, _, rfl, _⟩ := c; rfl) | (obtain ⟨_, _, _, _, _, _, _, _, rfl, _⟩ := c; rfl) | (obtain ⟨_, _, _, _, _, _, _, _, _, rfl, _⟩ := c; rfl) | (obtain ⟨_, _, _, _, _, _, _, _, _, _, rfl, _⟩ := c; rfl) | (obtain ⟨_, _, _, _, _, _, _, _, _, _, _, rfl, _⟩ := c; rfl) | (obtain ⟨_, _, _, _, _, _, _, _, _, _, _, _, rfl, _⟩ := c; rfl) | (obtain ⟨_, _, _, _, _, _, _, _, _, _, _, _, _, rfl, _⟩ := c; rfl) | (obtain ⟨_, rfl⟩ := c; rfl) | (obtain ⟨_, _, rfl⟩ := c; rfl) | (obtain ⟨_, _, _, rfl⟩ := c; rfl) | (obtain ⟨_, _, _, _, rfl⟩ := c; rfl) | (obtain ⟨_, _, _, _, _, rfl⟩ := c; rfl) | (obtain ⟨_, _, _, _, _, _, rfl⟩ := c; rfl) | (obtain ⟨_, _, _, _, _, _, _, rfl⟩ := c; rfl) | (obtain ⟨_, _, _, _, _, _, _, _, rfl⟩ := c; rfl) | (obtain ⟨_, _, _, _, _, _, _, _, _, rfl⟩ := c; rfl) | (obtain ⟨_, _, _, _, _, _, _, _, _, _, rfl⟩ := c; rfl) | (obtain ⟨_, _, _, _, _, _, _, _, _, _, _, rfl⟩ := c; rfl)) h) (fun hr => dv__law_flow T (c__law_mixed T) (c__law_hop T) (c__law_draw T) hr) (bd__law_flow T.tc)
theorem c__law_model (T : Tx K mg a b) : FC P w K mg base 5 b._law_model b.d__law_model ["state", "most", "flows"] (@sp__law_model ⟨w⟩ K a) :=
  letI : Wld := ⟨w⟩; FC.ofT T.d__law_model sc__law_model (fun vs H Q E h => spF_len (fun ds P c => by unfold C_law_model at c; first | (obtain ⟨rfl, _⟩ := c; rfl) | (obtain ⟨_, rfl, _⟩ := c; rfl) | (obtain ⟨_, _, rfl, _⟩ := c; rfl) | (obtain ⟨_, _, _, rfl, _⟩ := c; rfl) | (obtain ⟨_, _, _, _, rfl, _⟩ := c; rfl) | (obtain ⟨_, _, _, _, _, rfl, _⟩ := c; rfl) | (obtain ⟨_, _, _, _, _, _, rfl, _⟩ := c; rfl) | (obtain ⟨_, _, _, _, _, _, _, rfl, _⟩ := c; rfl) | (obtain ⟨_, _, _, _, _, _, _, _, rfl, _⟩ := c; rfl) | (obtain ⟨_, _, _, _, _, _, _, _, _, rfl, _⟩ := c; rfl) | (obtain ⟨_, _, _, _, _, _, _, _, _, _, rfl, _⟩ := c; rfl) | (obtain ⟨_, _, _, _, _, _, _, _, _, _, _, rfl, _⟩ := c; rfl) | (obtain ⟨_, _, _, _, _, _, _, _, _, _, _, _, rfl, _⟩ := c; rfl) | (obtain ⟨_, _, _, _, _, _, _, _, _, _, _, _, _, rfl, _⟩ := c; rfl) | (obtain ⟨_, rfl⟩ := c; rfl) | (obtain ⟨_, _, rfl⟩ := c; rfl) | (obtain ⟨_, _, _, rfl⟩ := c; rfl) | (obtain ⟨_, _, _, _, rfl⟩ := c; rfl) | (obtain ⟨_, _, _, _, _, rfl⟩ := c; rfl) | (obtain ⟨_, _, _, _, _, _, rfl⟩ := c; rfl) | (obtain ⟨_, _, _, _, _, _, _, rfl⟩ := c; rfl) | (obtain ⟨_, _, _, _, _, _, _, _, rfl⟩ := c; rfl) | (obtain ⟨_, _, _, _, _, _, _, _, _, rfl⟩ := c; rfl) | (obtain ⟨_, _, _, _, _, _, _, _, _, _, rfl⟩ := c; rfl) | (obtain ⟨_, _, _, _, _, _, _, _, _, _, _, rfl⟩ := c; rfl)) h) (fun hr => dv__law_model T (c__law_draw T) (c__law_names T) (c__law_flow T) hr) (bd__law_model T.tc)
theorem c__law_shape (T : Tx K mg a b) : FC P w K mg base 6 b._law_shape b.d__law_shape ["state", "most", "flows"] (@sp__law_shape ⟨w⟩ K a) :=
  letI : Wld := ⟨w⟩; FC.ofT T.d__law_shape sc__law_shape (fun vs H Q E h => spF_len (fun ds P c => by unfold C_law_shape at c; first | (obtain ⟨rfl, _⟩ := c; rfl) | (obtain ⟨_, rfl, _⟩ := c; rfl) | (obtain ⟨_, _, rfl, _⟩ := c; rfl) | (obtain ⟨_, _, _, rfl, _⟩ := c; rfl) | (obtain ⟨_, _, _, _, rfl, _⟩ := c; rfl) | (obtain ⟨_, _, _, _, _, rfl, _⟩ := c; rfl) | (obtain ⟨_, _, _, _, _, _, rfl, _⟩ := c; rfl) | (obtain ⟨_, _, _, _, _, _, _, rfl, _⟩ := c; rfl) | (obtain ⟨_, _, _, _, _, _, _, _, rfl, _⟩ := c; rfl) | (obtain ⟨_, _, _, _, _, _, _, _, _, rfl, _⟩ := c; rfl) | (obtain ⟨_, _, _, _, _, _, _, _, _, _, rfl, _⟩ := c; rfl) | (obtain ⟨_, _, _, _, _, _, _, _, _, _, _, rfl, _⟩ := c; rfl) | (obtain ⟨_, _, _, _, _, _, _, _, _, _, _, _, rfl, _⟩ := c; rfl) | (obtain ⟨_, _, _, _, _, _, _, _, _, _, _, _, _, rfl, _⟩ := c; rfl) | (obtain ⟨_, rfl⟩ := c; rfl) | (obtain ⟨_, _, rfl⟩ := c; rfl) | (obtain ⟨_, _, _, rfl⟩ := c; rfl) | (obtain ⟨_, _, _, _, rfl⟩ := c; rfl) | (obtain ⟨_, _, _, _, _, rfl⟩ := c; rfl) | (obtain ⟨_, _, _, _, _, _, rfl⟩ := c; rfl) | (obtain ⟨_, _, _, _, _, _, _, rfl⟩ := c; rfl) | (obtain ⟨_, _, _, _, _, _, _, _, rfl⟩ := c; rfl) | (obtain ⟨_, _, _, _, _, _, _, _, _, rfl⟩ := c; rfl) | (obtain ⟨_, _, _, _, _, _, _, _, _, _, rfl⟩ := c; rfl) | (obtain ⟨_, _, _, _, _, _, _, _, _, _, _, rfl⟩ := c; rfl)) h) (fun hr => dv__law_shape T (c__law_model T) (c__law_mixed T) (c__law_draw T) hr) (bd__law_shape T.tc)
theorem c_is_name (T : Tx K mg a b) : FC P w K mg base 1 b.is_name b.d_is_name ["value"] (@sp_is_name ⟨w⟩ K a) :=
  letI : Wld := ⟨w⟩; FC.ofT T.d_is_name sc_is_name (fun vs H Q E h => spF_len (fun ds P c => by unfold C_is_name at c; first | (obtain ⟨rfl, _⟩ := c; rfl) | (obtain ⟨_, rfl, _⟩ := c; rfl) | (obtain ⟨_, _, rfl, _⟩ := c; rfl) | (obtain ⟨_, _, _, rfl, _⟩ := c; rfl) | (obtain ⟨_, _, _, _, rfl, _⟩ := c; rfl) | (obtain ⟨_, _, _, _, _, rfl, _⟩ := c; rfl) | (obtain ⟨_, _, _, _, _, _, rfl, _⟩ := c; rfl) | (obtain ⟨_, _, _, _, _, _, _, rfl, _⟩ := c; rfl) | (obtain ⟨_, _, _, _, _, _, _, _, rfl, _⟩ := c; rfl) | (obtain ⟨_, _, _, _, _, _, _, _, _, rfl, _⟩ := c; rfl) | (obtain ⟨_, _, _, _, _, _, _, _, _, _, rfl, _⟩ := c; rfl) | (obtain ⟨_, _, _, _, _, _, _, _, _, _, _, rfl, _⟩ := c; rfl) | (obtain ⟨_, _, _, _, _, _, _, _, _, _, _, _, rfl, _⟩ := c; rfl) | (obtain ⟨_, _, _, _, _, _, _, _, _, _, _, _, _, rfl, _⟩ := c; rfl) | (obtain ⟨_, rfl⟩ := c; rfl) | (obtain ⟨_, _, rfl⟩ := c; rfl) | (obtain ⟨_, _, _, rfl⟩ := c; rfl) | (obtain ⟨_, _, _, _, rfl⟩ := c; rfl) | (obtain ⟨_, _, _, _, _, rfl⟩ := c; rfl) | (obtain ⟨_, _, _, _, _, _, rfl⟩ := c; rfl) | (obtain ⟨_, _, _, _, _, _, _, rfl⟩ := c; rfl) | (obtain ⟨_, _, _, _, _, _, _, _, rfl⟩ := c; rfl) | (obtain ⟨_, _, _, _, _, _, _, _, _, rfl⟩ := c; rfl) | (obtain ⟨_, _, _, _, _, _, _, _, _, _, rfl⟩ := c; rfl) | (obtain ⟨_, _, _, _, _, _, _, _, _, _, _, rfl⟩ := c; rfl)) h) (fun hr => dv_is_name T hr) (bd_is_name)
theorem c_Network___init__ (T : Tx K mg a b) : FC P w K mg base 2 b.Network___init__ b.d_Network___init__ ["self", "nodes", "exits"] (@sp_Network___init__ ⟨w⟩ K a) :=
  letI : Wld := ⟨w⟩; FC.ofT T.d_Network___init__ sc_Network___init__ (fun vs H Q E h => spI_len (fun ds P c => by unfold C_Network_init at c; first | (obtain ⟨rfl, _⟩ := c; rfl) | (obtain ⟨_, rfl, _⟩ := c; rfl) | (obtain ⟨_, _, rfl, _⟩ := c; rfl) | (obtain ⟨_, _, _, rfl, _⟩ := c; rfl) | (obtain ⟨_, _, _, _, rfl, _⟩ := c; rfl) | (obtain ⟨_, _, _, _, _, rfl, _⟩ := c; rfl) | (obtain ⟨_, _, _, _, _, _, rfl, _⟩ := c; rfl) | (obtain ⟨_, _, _, _, _, _, _, rfl, _⟩ := c; rfl) | (obtain ⟨_, _, _, _, _, _, _, _, rfl, _⟩ := c; rfl) | (obtain ⟨_, _, _, _, _, _, _, _, _, rfl, _⟩ := c; rfl) | (obtain ⟨_, _, _, _, _, _, _, _, _, _, rfl, _⟩ := c; rfl) | (obtain ⟨_, _, _, _, _, _, _, _, _, _, _, rfl, _⟩ := c; rfl) | (obtain ⟨_, _, _, _, _, _, _, _, _, _, _, _, rfl, _⟩ := c; rfl) | (obtain ⟨_, _, _, _, _, _, _, _, _, _, _, _, _, rfl, _⟩ := c; rfl) | (obtain ⟨_, rfl⟩ := c; rfl) | (obtain ⟨_, _, rfl⟩ := c; rfl) | (obtain ⟨_, _, _, rfl⟩ := c; rfl) | (obtain ⟨_, _, _, _, rfl⟩ := c; rfl) | (obtain ⟨_, _, _, _, _, rfl⟩ := c; rfl) | (obtain ⟨_, _, _, _, _, _, rfl⟩ := c; rfl) | (obtain ⟨_, _, _, _, _, _, _, rfl⟩ := c; rfl) | (obtain ⟨_, _, _, _, _, _, _, _, rfl⟩ := c; rfl) | (obtain ⟨_, _, _, _, _, _, _, _, _, rfl⟩ := c; rfl) | (obtain ⟨_, _, _, _, _, _, _, _, _, _, rfl⟩ := c; rfl) | (obtain ⟨_, _, _, _, _, _, _, _, _, _, _, rfl⟩ := c; rfl)) h) (fun hr => dv_Network___init__ T (c_is_name T) hr) (bd_Network___init__ T.tc)
theorem c_Network_nodes (T : Tx K mg a b) : FC P w K mg base 1 b.Network_nodes b.d_Network_nodes ["self"] (@sp_Network_nodes ⟨w⟩ K a) :=
  letI : Wld := ⟨w⟩; FC.ofT T.d_Network_nodes sc_Network_nodes (fun vs H Q E h => spF_len (fun ds P c => by unfold C_Network_nodes at c; first | (obtain ⟨rfl, _⟩ := c; rfl) | (obtain ⟨_, rfl, _⟩ := c; rfl) | (obtain ⟨_, _, rfl, _⟩ := c; rfl) | (obtain ⟨_, _, _, rfl, _⟩ := c; rfl) | (obtain ⟨_, _, _, _, rfl, _⟩ := c; rfl) | (obtain ⟨_, _, _, _, _, rfl, _⟩ := c; rfl) | (obtain ⟨_, _, _, _, _, _, rfl, _⟩ := c; rfl) | (obtain ⟨_, _, _, _, _, _, _, rfl, _⟩ := c; rfl) | (obtain ⟨_, _, _, _, _, _, _, _, rfl, _⟩ := c; rfl) | (obtain ⟨_, _, _, _, _, _, _, _, _, rfl, _⟩ := c; rfl) | (obtain ⟨_, _, _, _, _, _, _, _, _, _, rfl, _⟩ := c; rfl) | (obtain ⟨_, _, _, _, _, _, _, _, _, _, _, rfl, _⟩ := c; rfl) | (obtain ⟨_, _, _, _, _, _, _, _, _, _, _, _, rfl, _⟩ := c; rfl) | (obtain ⟨_, _, _, _, _, _, _, _, _, _, _, _, _, rfl, _⟩ := c; rfl) | (obtain ⟨_, rfl⟩ := c; rfl) | (obtain ⟨_, _, rfl⟩ := c; rfl) | (obtain ⟨_, _, _, rfl⟩ := c; rfl) | (obtain ⟨_, _, _, _, rfl⟩ := c; rfl) | (obtain ⟨_, _, _, _, _, rfl⟩ := c; rfl) | (obtain ⟨_, _, _, _, _, _, rfl⟩ := c; rfl) | (obtain ⟨_, _, _, _, _, _, _, rfl⟩ := c; rfl) | (obtain ⟨_, _, _, _, _, _, _, _, rfl⟩ := c; rfl) | (obtain ⟨_, _, _, _, _, _, _, _, _, rfl⟩ := c; rfl) | (obtain ⟨_, _, _, _, _, _, _, _, _, _, rfl⟩ := c; rfl) | (obtain ⟨_, _, _, _, _, _, _, _, _, _, _, rfl⟩ := c; rfl)) h) (fun hr => dv_Network_nodes T hr) (bd_Network_nodes T.tc)
theorem c_is_node (T : Tx K mg a b) : FC P w K mg base 3 b.is_node b.d_is_node ["network", "value"] (@sp_is_node ⟨w⟩ K a) :=
  letI : Wld := ⟨w⟩; FC.ofT T.d_is_node sc_is_node (fun vs H Q E h => spF_len (fun ds P c => by unfold C_is_node at c; first | (obtain ⟨rfl, _⟩ := c; rfl) | (obtain ⟨_, rfl, _⟩ := c; rfl) | (obtain ⟨_, _, rfl, _⟩ := c; rfl) | (obtain ⟨_, _, _, rfl, _⟩ := c; rfl) | (obtain ⟨_, _, _, _, rfl, _⟩ := c; rfl) | (obtain ⟨_, _, _, _, _, rfl, _⟩ := c; rfl) | (obtain ⟨_, _, _, _, _, _, rfl, _⟩ := c; rfl) | (obtain ⟨_, _, _, _, _, _, _, rfl, _⟩ := c; rfl) | (obtain ⟨_, _, _, _, _, _, _, _, rfl, _⟩ := c; rfl) | (obtain ⟨_, _, _, _, _, _, _, _, _, rfl, _⟩ := c; rfl) | (obtain ⟨_, _, _, _, _, _, _, _, _, _, rfl, _⟩ := c; rfl) | (obtain ⟨_, _, _, _, _, _, _, _, _, _, _, rfl, _⟩ := c; rfl) | (obtain ⟨_, _, _, _, _, _, _, _, _, _, _, _, rfl, _⟩ := c; rfl) | (obtain ⟨_, _, _, _, _, _, _, _, _, _, _, _, _, rfl, _⟩ := c; rfl) | (obtain ⟨_, rfl⟩ := c; rfl) | (obtain ⟨_, _, rfl⟩ := c; rfl) | (obtain ⟨_, _, _, rfl⟩ := c; rfl) | (obtain ⟨_, _, _, _, rfl⟩ := c; rfl) | (obtain ⟨_, _, _, _, _, rfl⟩ := c; rfl) | (obtain ⟨_, _, _, _, _, _, rfl⟩ := c; rfl) | (obtain ⟨_, _, _, _, _, _, _, rfl⟩ := c; rfl) | (obtain ⟨_, _, _, _, _, _, _, _, rfl⟩ := c; rfl) | (obtain ⟨_, _, _, _, _, _, _, _, _, rfl⟩ := c; rfl) | (obtain ⟨_, _, _, _, _, _, _, _, _, _, rfl⟩ := c; rfl) | (obtain ⟨_, _, _, _, _, _, _, _, _, _, _, rfl⟩ := c; rfl)) h) (fun hr => dv_is_node T (c_Network_nodes T) hr) (bd_is_node T.tc)
theorem c_Network_exits (T : Tx K mg a b) : FC P w K mg base 1 b.Network_exits b.d_Network_exits ["self"] (@sp_Network_exits ⟨w⟩ K a) :=
  letI : Wld := ⟨w⟩; FC.ofT T.d_Network_exits sc_Network_exits (fun vs H Q E h => spF_len (fun ds P c => by unfold C_Network_exits at c; first | (obtain ⟨rfl, _⟩ := c; rfl) | (obtain ⟨_, rfl, _⟩ := c; rfl) | (obtain ⟨_, _, rfl, _⟩ := c; rfl) | (obtain ⟨_, _, _, rfl, _⟩ := c; rfl) | (obtain ⟨_, _, _, _, rfl, _⟩ := c; rfl) | (obtain ⟨_, _, _, _, _, rfl, _⟩ := c; rfl) | (obtain ⟨_, _, _, _, _, _, rfl, _⟩ := c; rfl) | (obtain ⟨_, _, _, _, _, _, _, rfl, _⟩ := c; rfl) | (obtain ⟨_, _, _, _, _, _, _, _, rfl, _⟩ := c; rfl) | (obtain ⟨_, _, _, _, _, _, _, _, _, rfl, _⟩ := c; rfl) | (obtain ⟨_, _, _, _, _, _, _, _, _, _, rfl, _⟩ := c; rfl) | (obtain ⟨_, _, _, _, _, _, _, _, _, _, _, rfl, _⟩ := c; rfl) | (obtain ⟨_, _, _, _, _, _, _, _, _, _, _, _, rfl, _⟩ := c; rfl) | (obtain ⟨_, _, _, _, _, _, _, _, _, _, _, _, _, rfl, _⟩ := c; rfl) | (obtain ⟨_, rfl⟩ := c; rfl) | (obtain ⟨_, _, rfl⟩ := c; rfl) | (obtain ⟨_, _, _, rfl⟩ := c; rfl) | (obtain ⟨_, _, _, _, rfl⟩ := c; rfl) | (obtain ⟨_, _, _, _, _, rfl⟩ := c; rfl) | (obtain ⟨_, _, _, _, _, _, rfl⟩ := c; rfl) | (obtain ⟨_, _, _, _, _, _, _, rfl⟩ := c; rfl) | (obtain ⟨_, _, _, _, _, _, _, _, rfl⟩ := c; rfl) | (obtain ⟨_, _, _, _, _, _, _, _, _, rfl⟩ := c; rfl) | (obtain ⟨_, _, _, _, _, _, _, _, _, _, rfl⟩ := c; rfl) | (obtain ⟨_, _, _, _, _, _, _, _, _, _, _, rfl⟩ := c; rfl)) h) (fun hr => dv_Network_exits T hr) (bd_Network_exits T.tc)
theorem c_is_exit (T : Tx K mg a b) : FC P w K mg base 3 b.is_exit b.d_is_exit ["network", "value"] (@sp_is_exit ⟨w⟩ K a) :=
  letI : Wld := ⟨w⟩; FC.ofT T.d_is_exit sc_is_exit (fun vs H Q E h => spF_len (fun ds P c => by unfold C_is_exit at c; first | (obtain ⟨rfl, _⟩ := c; rfl) | (obtain ⟨_, rfl, _⟩ := c; rfl) | (obtain ⟨_, _, rfl, _⟩ := c; rfl) | (obtain ⟨_, _, _, rfl, _⟩ := c; rfl) | (obtain ⟨_, _, _, _, rfl, _⟩ := c; rfl) | (obtain ⟨_, _, _, _, _, rfl, _⟩ := c; rfl) | (obtain ⟨_, _, _, _, _, _, rfl, _⟩ := c; rfl) | (obtain ⟨_, _, _, _, _, _, _, rfl, _⟩ := c; rfl) | (obtain ⟨_, _, _, _, _, _, _, _, rfl, _⟩ := c; rfl) | (obtain ⟨_, _, _, _, _, _, _, _, _, rfl, _⟩ := c; rfl) | (obtain ⟨_, _, _, _, _, _, _, _, _, _, rfl, _⟩ := c; rfl) | (obtain ⟨_, _, _, _, _, _, _, _, _, _, _, rfl, _⟩ := c; rfl) | (obtain ⟨_, _, _, _, _, _, _, _, _, _, _, _, rfl, _⟩ := c; rfl) | (obtain ⟨_, _, _, _, _, _, _, _, _, _, _, _, _, rfl, _⟩ := c; rfl) | (obtain ⟨_, rfl⟩ := c; rfl) | (obtain ⟨_, _, rfl⟩ := c; rfl) | (obtain ⟨_, _, _, rfl⟩ := c; rfl) | (obtain ⟨_, _, _, _, rfl⟩ := c; rfl) | (obtain ⟨_, _, _, _, _, rfl⟩ := c; rfl) | (obtain ⟨_, _, _, _, _, _, rfl⟩ := c; rfl) | (obtain ⟨_, _, _, _, _, _, _, rfl⟩ := c; rfl) | (obtain ⟨_, _, _, _, _, _, _, _, rfl⟩ := c; rfl) | (obtain ⟨_, _, _, _, _, _, _, _, _, rfl⟩ := c; rfl) | (obtain ⟨_, _, _, _, _, _, _, _, _, _, rfl⟩ := c; rfl) | (obtain ⟨_, _, _, _, _, _, _, _, _, _, _, rfl⟩ := c; rfl)) h) (fun hr => dv_is_exit T (c_Network_exits T) hr) (bd_is_exit T.tc)
theorem c_is_hop (T : Tx K mg a b) : FC P w K mg base 4 b.is_hop b.d_is_hop ["network", "value"] (@sp_is_hop ⟨w⟩ K a) :=
  letI : Wld := ⟨w⟩; FC.ofT T.d_is_hop sc_is_hop (fun vs H Q E h => spF_len (fun ds P c => by unfold C_is_hop at c; first | (obtain ⟨rfl, _⟩ := c; rfl) | (obtain ⟨_, rfl, _⟩ := c; rfl) | (obtain ⟨_, _, rfl, _⟩ := c; rfl) | (obtain ⟨_, _, _, rfl, _⟩ := c; rfl) | (obtain ⟨_, _, _, _, rfl, _⟩ := c; rfl) | (obtain ⟨_, _, _, _, _, rfl, _⟩ := c; rfl) | (obtain ⟨_, _, _, _, _, _, rfl, _⟩ := c; rfl) | (obtain ⟨_, _, _, _, _, _, _, rfl, _⟩ := c; rfl) | (obtain ⟨_, _, _, _, _, _, _, _, rfl, _⟩ := c; rfl) | (obtain ⟨_, _, _, _, _, _, _, _, _, rfl, _⟩ := c; rfl) | (obtain ⟨_, _, _, _, _, _, _, _, _, _, rfl, _⟩ := c; rfl) | (obtain ⟨_, _, _, _, _, _, _, _, _, _, _, rfl, _⟩ := c; rfl) | (obtain ⟨_, _, _, _, _, _, _, _, _, _, _, _, rfl, _⟩ := c; rfl) | (obtain ⟨_, _, _, _, _, _, _, _, _, _, _, _, _, rfl, _⟩ := c; rfl) | (obtain ⟨_, rfl⟩ := c; rfl) | (obtain ⟨_, _, rfl⟩ := c; rfl) | (obtain ⟨_, _, _, rfl⟩ := c; rfl) | (obtain ⟨_, _, _, _, rfl⟩ := c; rfl) | (obtain ⟨_, _, _, _, _, rfl⟩ := c; rfl) | (obtain ⟨_, _, _, _, _, _, rfl⟩ := c; rfl) | (obtain ⟨_, _, _, _, _, _, _, rfl⟩ := c; rfl) | (obtain ⟨_, _, _, _, _, _, _, _, rfl⟩ := c; rfl) | (obtain ⟨_, _, _, _, _, _, _, _, _, rfl⟩ := c; rfl) | (obtain ⟨_, _, _, _, _, _, _, _, _, _, rfl⟩ := c; rfl) | (obtain ⟨_, _, _, _, _, _, _, _, _, _, _, rfl⟩ := c; rfl)) h) (fun hr => dv_is_hop T (c_is_node T) (c_is_exit T) hr) (bd_is_hop T.tc)
theorem c_Table___init__ (T : Tx K mg a b) : FC P w K mg base 5 b.Table___init__ b.d_Table___init__ ["self", "network", "hops"] (@sp_Table___init__ ⟨w⟩ K a) :=
  letI : Wld := ⟨w⟩; FC.ofT T.d_Table___init__ sc_Table___init__ (fun vs H Q E h => spI_len (fun ds P c => by unfold C_Table_init at c; first | (obtain ⟨rfl, _⟩ := c; rfl) | (obtain ⟨_, rfl, _⟩ := c; rfl) | (obtain ⟨_, _, rfl, _⟩ := c; rfl) | (obtain ⟨_, _, _, rfl, _⟩ := c; rfl) | (obtain ⟨_, _, _, _, rfl, _⟩ := c; rfl) | (obtain ⟨_, _, _, _, _, rfl, _⟩ := c; rfl) | (obtain ⟨_, _, _, _, _, _, rfl, _⟩ := c; rfl) | (obtain ⟨_, _, _, _, _, _, _, rfl, _⟩ := c; rfl) | (obtain ⟨_, _, _, _, _, _, _, _, rfl, _⟩ := c; rfl) | (obtain ⟨_, _, _, _, _, _, _, _, _, rfl, _⟩ := c; rfl) | (obtain ⟨_, _, _, _, _, _, _, _, _, _, rfl, _⟩ := c; rfl) | (obtain ⟨_, _, _, _, _, _, _, _, _, _, _, rfl, _⟩ := c; rfl) | (obtain ⟨_, _, _, _, _, _, _, _, _, _, _, _, rfl, _⟩ := c; rfl) | (obtain ⟨_, _, _, _, _, _, _, _, _, _, _, _, _, rfl, _⟩ := c; rfl) | (obtain ⟨_, rfl⟩ := c; rfl) | (obtain ⟨_, _, rfl⟩ := c; rfl) | (obtain ⟨_, _, _, rfl⟩ := c; rfl) | (obtain ⟨_, _, _, _, rfl⟩ := c; rfl) | (obtain ⟨_, _, _, _, _, rfl⟩ := c; rfl) | (obtain ⟨_, _, _, _, _, _, rfl⟩ := c; rfl) | (obtain ⟨_, _, _, _, _, _, _, rfl⟩ := c; rfl) | (obtain ⟨_, _, _, _, _, _, _, _, rfl⟩ := c; rfl) | (obtain ⟨_, _, _, _, _, _, _, _, _, rfl⟩ := c; rfl) | (obtain ⟨_, _, _, _, _, _, _, _, _, _, rfl⟩ := c; rfl) | (obtain ⟨_, _, _, _, _, _, _, _, _, _, _, rfl⟩ := c; rfl)) h) (fun hr => dv_Table___init__ T (c_Network_nodes T) (c_is_hop T) (c_is_node T) hr) (bd_Table___init__ T.tc)
theorem c_Table_network (T : Tx K mg a b) : FC P w K mg base 1 b.Table_network b.d_Table_network ["self"] (@sp_Table_network ⟨w⟩ K a) :=
  letI : Wld := ⟨w⟩; FC.ofT T.d_Table_network sc_Table_network (fun vs H Q E h => spF_len (fun ds P c => by unfold C_Table_network at c; first | (obtain ⟨rfl, _⟩ := c; rfl) | (obtain ⟨_, rfl, _⟩ := c; rfl) | (obtain ⟨_, _, rfl, _⟩ := c; rfl) | (obtain ⟨_, _, _, rfl, _⟩ := c; rfl) | (obtain ⟨_, _, _, _, rfl, _⟩ := c; rfl) | (obtain ⟨_, _, _, _, _, rfl, _⟩ := c; rfl) | (obtain ⟨_, _, _, _, _, _, rfl, _⟩ := c; rfl) | (obtain ⟨_, _, _, _, _, _, _, rfl, _⟩ := c; rfl) | (obtain ⟨_, _, _, _, _, _, _, _, rfl, _⟩ := c; rfl) | (obtain ⟨_, _, _, _, _, _, _, _, _, rfl, _⟩ := c; rfl) | (obtain ⟨_, _, _, _, _, _, _, _, _, _, rfl, _⟩ := c; rfl) | (obtain ⟨_, _, _, _, _, _, _, _, _, _, _, rfl, _⟩ := c; rfl) | (obtain ⟨_, _, _, _, _, _, _, _, _, _, _, _, rfl, _⟩ := c; rfl) | (obtain ⟨_, _, _, _, _, _, _, _, _, _, _, _, _, rfl, _⟩ := c; rfl) | (obtain ⟨_, rfl⟩ := c; rfl) | (obtain ⟨_, _, rfl⟩ := c; rfl) | (obtain ⟨_, _, _, rfl⟩ := c; rfl) | (obtain ⟨_, _, _, _, rfl⟩ := c; rfl) | (obtain ⟨_, _, _, _, _, rfl⟩ := c; rfl) | (obtain ⟨_, _, _, _, _, _, rfl⟩ := c; rfl) | (obtain ⟨_, _, _, _, _, _, _, rfl⟩ := c; rfl) | (obtain ⟨_, _, _, _, _, _, _, _, rfl⟩ := c; rfl) | (obtain ⟨_, _, _, _, _, _, _, _, _, rfl⟩ := c; rfl) | (obtain ⟨_, _, _, _, _, _, _, _, _, _, rfl⟩ := c; rfl) | (obtain ⟨_, _, _, _, _, _, _, _, _, _, _, rfl⟩ := c; rfl)) h) (fun hr => dv_Table_network T hr) (bd_Table_network T.tc)
theorem c_Network___eq__ (T : Tx K mg a b) : FC P w K mg base 1 b.Network___eq__ b.d_Network___eq__ ["self", "other"] (@sp_Network___eq__ ⟨w⟩ K a) :=
  letI : Wld := ⟨w⟩; FC.ofT T.d_Network___eq__ sc_Network___eq__ (fun vs H Q E h => spF_len (fun ds P c => by unfold C_Network_eq at c; first | (obtain ⟨rfl, _⟩ := c; rfl) | (obtain ⟨_, rfl, _⟩ := c; rfl) | (obtain ⟨_, _, rfl, _⟩ := c; rfl) | (obtain ⟨_, _, _, rfl, _⟩ := c; rfl) | (obtain ⟨_, _, _, _, rfl, _⟩ := c; rfl) | (obtain ⟨_, _, _, _, _, rfl, _⟩ := c; rfl) | (obtain ⟨_, _, _, _, _, _, rfl, _⟩ := c; rfl) | (obtain ⟨_, _, _, _, _, _, _, rfl, _⟩ := c; rfl) | (obtain ⟨_, _, _, _, _, _, _, _, rfl, _⟩ := c; rfl) | (obtain ⟨_, _, _, _, _, _, _, _, _, rfl, _⟩ := c; rfl) | (obtain ⟨_, _, _, _, _, _, _, _, _, _, rfl, _⟩ := c; rfl) | (obtain ⟨_, _, _, _, _, _, _, _, _, _, _, rfl, _⟩ := c; rfl) | (obtain ⟨_, _, _, _, _, _, _, _, _, _, _, _, rfl, _⟩ := c; rfl) | (obtain ⟨_, _, _, _, _, _, _, _, _, _, _, _, _, rfl, _⟩ := c; rfl) | (obtain ⟨_, rfl⟩ := c; rfl) | (obtain ⟨_, _, rfl⟩ := c; rfl) | (obtain ⟨_, _, _, rfl⟩ := c; rfl) | (obtain ⟨_, _, _, _, rfl⟩ := c; rfl) | (obtain ⟨_, _, _, _, _, rfl⟩ := c; rfl) | (obtain ⟨_, _, _, _, _, _, rfl⟩ := c; rfl) | (obtain ⟨_, _, _, _, _, _, _, rfl⟩ := c; rfl) | (obtain ⟨_, _, _, _, _, _, _, _, rfl⟩ := c; rfl) | (obtain ⟨_, _, _, _, _, _, _, _, _, rfl⟩ := c; rfl) | (obtain ⟨_, _, _, _, _, _, _, _, _, _, rfl⟩ := c; rfl) | (obtain ⟨_, _, _, _, _, _, _, _, _, _, _, rfl⟩ := c; rfl)) h) (fun hr => dv_Network___eq__ T hr) (bd_Network___eq__ T.tc)
theorem c_need_flows (T : Tx K mg a b) : FC P w K mg base 3 b.need_flows b.d_need_flows ["network", "flows"] (@sp_need_flows ⟨w⟩ K a) :=
  letI : Wld := ⟨w⟩; FC.ofT T.d_need_flows sc_need_flows (fun vs H Q E h => spF_len (fun ds P c => by unfold C_need_flows at c; first | (obtain ⟨rfl, _⟩ := c; rfl) | (obtain ⟨_, rfl, _⟩ := c; rfl) | (obtain ⟨_, _, rfl, _⟩ := c; rfl) | (obtain ⟨_, _, _, rfl, _⟩ := c; rfl) | (obtain ⟨_, _, _, _, rfl, _⟩ := c; rfl) | (obtain ⟨_, _, _, _, _, rfl, _⟩ := c; rfl) | (obtain ⟨_, _, _, _, _, _, rfl, _⟩ := c; rfl) | (obtain ⟨_, _, _, _, _, _, _, rfl, _⟩ := c; rfl) | (obtain ⟨_, _, _, _, _, _, _, _, rfl, _⟩ := c; rfl) | (obtain ⟨_, _, _, _, _, _, _, _, _, rfl, _⟩ := c; rfl) | (obtain ⟨_, _, _, _, _, _, _, _, _, _, rfl, _⟩ := c; rfl) | (obtain ⟨_, _, _, _, _, _, _, _, _, _, _, rfl, _⟩ := c; rfl) | (obtain ⟨_, _, _, _, _, _, _, _, _, _, _, _, rfl, _⟩ := c; rfl) | (obtain ⟨_, _, _, _, _, _, _, _, _, _, _, _, _, rfl, _⟩ := c; rfl) | (obtain ⟨_, rfl⟩ := c; rfl) | (obtain ⟨_, _, rfl⟩ := c; rfl) | (obtain ⟨_, _, _, rfl⟩ := c; rfl) | (obtain ⟨_, _, _, _, rfl⟩ := c; rfl) | (obtain ⟨_, _, _, _, _, rfl⟩ := c; rfl) | (obtain ⟨_, _, _, _, _, _, rfl⟩ := c; rfl) | (obtain ⟨_, _, _, _, _, _, _, rfl⟩ := c; rfl) | (obtain ⟨_, _, _, _, _, _, _, _, rfl⟩ := c; rfl) | (obtain ⟨_, _, _, _, _, _, _, _, _, rfl⟩ := c; rfl) | (obtain ⟨_, _, _, _, _, _, _, _, _, _, rfl⟩ := c; rfl) | (obtain ⟨_, _, _, _, _, _, _, _, _, _, _, rfl⟩ := c; rfl)) h) (fun hr => dv_need_flows T (c_is_name T) (c_Table_network T) (c_Network___eq__ T) hr) (bd_need_flows T.tc)
theorem c_Update___init__ (T : Tx K mg a b) : FC P w K mg base 4 b.Update___init__ b.d_Update___init__ ["self", "network", "flows"] (@sp_Update___init__ ⟨w⟩ K a) :=
  letI : Wld := ⟨w⟩; FC.ofT T.d_Update___init__ sc_Update___init__ (fun vs H Q E h => spI_len (fun ds P c => by unfold C_Update_init at c; first | (obtain ⟨rfl, _⟩ := c; rfl) | (obtain ⟨_, rfl, _⟩ := c; rfl) | (obtain ⟨_, _, rfl, _⟩ := c; rfl) | (obtain ⟨_, _, _, rfl, _⟩ := c; rfl) | (obtain ⟨_, _, _, _, rfl, _⟩ := c; rfl) | (obtain ⟨_, _, _, _, _, rfl, _⟩ := c; rfl) | (obtain ⟨_, _, _, _, _, _, rfl, _⟩ := c; rfl) | (obtain ⟨_, _, _, _, _, _, _, rfl, _⟩ := c; rfl) | (obtain ⟨_, _, _, _, _, _, _, _, rfl, _⟩ := c; rfl) | (obtain ⟨_, _, _, _, _, _, _, _, _, rfl, _⟩ := c; rfl) | (obtain ⟨_, _, _, _, _, _, _, _, _, _, rfl, _⟩ := c; rfl) | (obtain ⟨_, _, _, _, _, _, _, _, _, _, _, rfl, _⟩ := c; rfl) | (obtain ⟨_, _, _, _, _, _, _, _, _, _, _, _, rfl, _⟩ := c; rfl) | (obtain ⟨_, _, _, _, _, _, _, _, _, _, _, _, _, rfl, _⟩ := c; rfl) | (obtain ⟨_, rfl⟩ := c; rfl) | (obtain ⟨_, _, rfl⟩ := c; rfl) | (obtain ⟨_, _, _, rfl⟩ := c; rfl) | (obtain ⟨_, _, _, _, rfl⟩ := c; rfl) | (obtain ⟨_, _, _, _, _, rfl⟩ := c; rfl) | (obtain ⟨_, _, _, _, _, _, rfl⟩ := c; rfl) | (obtain ⟨_, _, _, _, _, _, _, rfl⟩ := c; rfl) | (obtain ⟨_, _, _, _, _, _, _, _, rfl⟩ := c; rfl) | (obtain ⟨_, _, _, _, _, _, _, _, _, rfl⟩ := c; rfl) | (obtain ⟨_, _, _, _, _, _, _, _, _, _, rfl⟩ := c; rfl) | (obtain ⟨_, _, _, _, _, _, _, _, _, _, _, rfl⟩ := c; rfl)) h) (fun hr => dv_Update___init__ T (c_need_flows T) hr) (bd_Update___init__ T.tc)
theorem c__law_update (T : Tx K mg a b) : FC P w K mg base 7 b._law_update b.d__law_update ["model"] (@sp__law_update ⟨w⟩ K a) :=
  letI : Wld := ⟨w⟩; FC.ofT T.d__law_update sc__law_update (fun vs H Q E h => spF_len (fun ds P c => by unfold C_law_update at c; first | (obtain ⟨rfl, _⟩ := c; rfl) | (obtain ⟨_, rfl, _⟩ := c; rfl) | (obtain ⟨_, _, rfl, _⟩ := c; rfl) | (obtain ⟨_, _, _, rfl, _⟩ := c; rfl) | (obtain ⟨_, _, _, _, rfl, _⟩ := c; rfl) | (obtain ⟨_, _, _, _, _, rfl, _⟩ := c; rfl) | (obtain ⟨_, _, _, _, _, _, rfl, _⟩ := c; rfl) | (obtain ⟨_, _, _, _, _, _, _, rfl, _⟩ := c; rfl) | (obtain ⟨_, _, _, _, _, _, _, _, rfl, _⟩ := c; rfl) | (obtain ⟨_, _, _, _, _, _, _, _, _, rfl, _⟩ := c; rfl) | (obtain ⟨_, _, _, _, _, _, _, _, _, _, rfl, _⟩ := c; rfl) | (obtain ⟨_, _, _, _, _, _, _, _, _, _, _, rfl, _⟩ := c; rfl) | (obtain ⟨_, _, _, _, _, _, _, _, _, _, _, _, rfl, _⟩ := c; rfl) | (obtain ⟨_, _, _, _, _, _, _, _, _, _, _, _, _, rfl, _⟩ := c; rfl) | (obtain ⟨_, rfl⟩ := c; rfl) | (obtain ⟨_, _, rfl⟩ := c; rfl) | (obtain ⟨_, _, _, rfl⟩ := c; rfl) | (obtain ⟨_, _, _, _, rfl⟩ := c; rfl) | (obtain ⟨_, _, _, _, _, rfl⟩ := c; rfl) | (obtain ⟨_, _, _, _, _, _, rfl⟩ := c; rfl) | (obtain ⟨_, _, _, _, _, _, _, rfl⟩ := c; rfl) | (obtain ⟨_, _, _, _, _, _, _, _, rfl⟩ := c; rfl) | (obtain ⟨_, _, _, _, _, _, _, _, _, rfl⟩ := c; rfl) | (obtain ⟨_, _, _, _, _, _, _, _, _, _, rfl⟩ := c; rfl) | (obtain ⟨_, _, _, _, _, _, _, _, _, _, _, rfl⟩ := c; rfl)) h) (fun hr => dv__law_update T (c_Network___init__ T) (c_Table___init__ T) (c_Update___init__ T) hr) (bd__law_update T.tc)
theorem c__law_grown (T : Tx K mg a b) : FC P w K mg base 1 b._law_grown b.d__law_grown ["model", "twins", "done"] (@sp__law_grown ⟨w⟩ K a) :=
  letI : Wld := ⟨w⟩; FC.ofT T.d__law_grown sc__law_grown (fun vs H Q E h => spF_len (fun ds P c => by unfold C_law_grown at c; first | (obtain ⟨rfl, _⟩ := c; rfl) | (obtain ⟨_, rfl, _⟩ := c; rfl) | (obtain ⟨_, _, rfl, _⟩ := c; rfl) | (obtain ⟨_, _, _, rfl, _⟩ := c; rfl) | (obtain ⟨_, _, _, _, rfl, _⟩ := c; rfl) | (obtain ⟨_, _, _, _, _, rfl, _⟩ := c; rfl) | (obtain ⟨_, _, _, _, _, _, rfl, _⟩ := c; rfl) | (obtain ⟨_, _, _, _, _, _, _, rfl, _⟩ := c; rfl) | (obtain ⟨_, _, _, _, _, _, _, _, rfl, _⟩ := c; rfl) | (obtain ⟨_, _, _, _, _, _, _, _, _, rfl, _⟩ := c; rfl) | (obtain ⟨_, _, _, _, _, _, _, _, _, _, rfl, _⟩ := c; rfl) | (obtain ⟨_, _, _, _, _, _, _, _, _, _, _, rfl, _⟩ := c; rfl) | (obtain ⟨_, _, _, _, _, _, _, _, _, _, _, _, rfl, _⟩ := c; rfl) | (obtain ⟨_, _, _, _, _, _, _, _, _, _, _, _, _, rfl, _⟩ := c; rfl) | (obtain ⟨_, rfl⟩ := c; rfl) | (obtain ⟨_, _, rfl⟩ := c; rfl) | (obtain ⟨_, _, _, rfl⟩ := c; rfl) | (obtain ⟨_, _, _, _, rfl⟩ := c; rfl) | (obtain ⟨_, _, _, _, _, rfl⟩ := c; rfl) | (obtain ⟨_, _, _, _, _, _, rfl⟩ := c; rfl) | (obtain ⟨_, _, _, _, _, _, _, rfl⟩ := c; rfl) | (obtain ⟨_, _, _, _, _, _, _, _, rfl⟩ := c; rfl) | (obtain ⟨_, _, _, _, _, _, _, _, _, rfl⟩ := c; rfl) | (obtain ⟨_, _, _, _, _, _, _, _, _, _, rfl⟩ := c; rfl) | (obtain ⟨_, _, _, _, _, _, _, _, _, _, _, rfl⟩ := c; rfl)) h) (fun hr => dv__law_grown T hr) (bd__law_grown T.tc)
theorem c__law_read (T : Tx K mg a b) : FC P w K mg base 1 b._law_read b.d__law_read ["model", "twins", "lane", "node", "done", "stamp"] (@sp__law_read ⟨w⟩ K a) :=
  letI : Wld := ⟨w⟩; FC.ofT T.d__law_read sc__law_read (fun vs H Q E h => spF_len (fun ds P c => by unfold C_law_read at c; first | (obtain ⟨rfl, _⟩ := c; rfl) | (obtain ⟨_, rfl, _⟩ := c; rfl) | (obtain ⟨_, _, rfl, _⟩ := c; rfl) | (obtain ⟨_, _, _, rfl, _⟩ := c; rfl) | (obtain ⟨_, _, _, _, rfl, _⟩ := c; rfl) | (obtain ⟨_, _, _, _, _, rfl, _⟩ := c; rfl) | (obtain ⟨_, _, _, _, _, _, rfl, _⟩ := c; rfl) | (obtain ⟨_, _, _, _, _, _, _, rfl, _⟩ := c; rfl) | (obtain ⟨_, _, _, _, _, _, _, _, rfl, _⟩ := c; rfl) | (obtain ⟨_, _, _, _, _, _, _, _, _, rfl, _⟩ := c; rfl) | (obtain ⟨_, _, _, _, _, _, _, _, _, _, rfl, _⟩ := c; rfl) | (obtain ⟨_, _, _, _, _, _, _, _, _, _, _, rfl, _⟩ := c; rfl) | (obtain ⟨_, _, _, _, _, _, _, _, _, _, _, _, rfl, _⟩ := c; rfl) | (obtain ⟨_, _, _, _, _, _, _, _, _, _, _, _, _, rfl, _⟩ := c; rfl) | (obtain ⟨_, rfl⟩ := c; rfl) | (obtain ⟨_, _, rfl⟩ := c; rfl) | (obtain ⟨_, _, _, rfl⟩ := c; rfl) | (obtain ⟨_, _, _, _, rfl⟩ := c; rfl) | (obtain ⟨_, _, _, _, _, rfl⟩ := c; rfl) | (obtain ⟨_, _, _, _, _, _, rfl⟩ := c; rfl) | (obtain ⟨_, _, _, _, _, _, _, rfl⟩ := c; rfl) | (obtain ⟨_, _, _, _, _, _, _, _, rfl⟩ := c; rfl) | (obtain ⟨_, _, _, _, _, _, _, _, _, rfl⟩ := c; rfl) | (obtain ⟨_, _, _, _, _, _, _, _, _, _, rfl⟩ := c; rfl) | (obtain ⟨_, _, _, _, _, _, _, _, _, _, _, rfl⟩ := c; rfl)) h) (fun hr => dv__law_read T hr) (bd__law_read T.tc)
theorem c__law_all_shown (T : Tx K mg a b) : FC P w K mg base 2 b._law_all_shown b.d__law_all_shown ["model", "twins", "lane", "most"] (@sp__law_all_shown ⟨w⟩ K a) :=
  letI : Wld := ⟨w⟩; FC.ofT T.d__law_all_shown sc__law_all_shown (fun vs H Q E h => spF_len (fun ds P c => by unfold C_law_all_shown at c; first | (obtain ⟨rfl, _⟩ := c; rfl) | (obtain ⟨_, rfl, _⟩ := c; rfl) | (obtain ⟨_, _, rfl, _⟩ := c; rfl) | (obtain ⟨_, _, _, rfl, _⟩ := c; rfl) | (obtain ⟨_, _, _, _, rfl, _⟩ := c; rfl) | (obtain ⟨_, _, _, _, _, rfl, _⟩ := c; rfl) | (obtain ⟨_, _, _, _, _, _, rfl, _⟩ := c; rfl) | (obtain ⟨_, _, _, _, _, _, _, rfl, _⟩ := c; rfl) | (obtain ⟨_, _, _, _, _, _, _, _, rfl, _⟩ := c; rfl) | (obtain ⟨_, _, _, _, _, _, _, _, _, rfl, _⟩ := c; rfl) | (obtain ⟨_, _, _, _, _, _, _, _, _, _, rfl, _⟩ := c; rfl) | (obtain ⟨_, _, _, _, _, _, _, _, _, _, _, rfl, _⟩ := c; rfl) | (obtain ⟨_, _, _, _, _, _, _, _, _, _, _, _, rfl, _⟩ := c; rfl) | (obtain ⟨_, _, _, _, _, _, _, _, _, _, _, _, _, rfl, _⟩ := c; rfl) | (obtain ⟨_, rfl⟩ := c; rfl) | (obtain ⟨_, _, rfl⟩ := c; rfl) | (obtain ⟨_, _, _, rfl⟩ := c; rfl) | (obtain ⟨_, _, _, _, rfl⟩ := c; rfl) | (obtain ⟨_, _, _, _, _, rfl⟩ := c; rfl) | (obtain ⟨_, _, _, _, _, _, rfl⟩ := c; rfl) | (obtain ⟨_, _, _, _, _, _, _, rfl⟩ := c; rfl) | (obtain ⟨_, _, _, _, _, _, _, _, rfl⟩ := c; rfl) | (obtain ⟨_, _, _, _, _, _, _, _, _, rfl⟩ := c; rfl) | (obtain ⟨_, _, _, _, _, _, _, _, _, _, rfl⟩ := c; rfl) | (obtain ⟨_, _, _, _, _, _, _, _, _, _, _, rfl⟩ := c; rfl)) h) (fun hr => dv__law_all_shown T (c__law_grown T) (c__law_read T) hr) (bd__law_all_shown T.tc)
theorem c__law_bent_walk (T : Tx K mg a b) : FC P w K mg base 3 b._law_bent_walk b.d__law_bent_walk ["state", "model", "walk"] (@sp__law_bent_walk ⟨w⟩ K a) :=
  letI : Wld := ⟨w⟩; FC.ofT T.d__law_bent_walk sc__law_bent_walk (fun vs H Q E h => spF_len (fun ds P c => by unfold C_law_bent_walk at c; first | (obtain ⟨rfl, _⟩ := c; rfl) | (obtain ⟨_, rfl, _⟩ := c; rfl) | (obtain ⟨_, _, rfl, _⟩ := c; rfl) | (obtain ⟨_, _, _, rfl, _⟩ := c; rfl) | (obtain ⟨_, _, _, _, rfl, _⟩ := c; rfl) | (obtain ⟨_, _, _, _, _, rfl, _⟩ := c; rfl) | (obtain ⟨_, _, _, _, _, _, rfl, _⟩ := c; rfl) | (obtain ⟨_, _, _, _, _, _, _, rfl, _⟩ := c; rfl) | (obtain ⟨_, _, _, _, _, _, _, _, rfl, _⟩ := c; rfl) | (obtain ⟨_, _, _, _, _, _, _, _, _, rfl, _⟩ := c; rfl) | (obtain ⟨_, _, _, _, _, _, _, _, _, _, rfl, _⟩ := c; rfl) | (obtain ⟨_, _, _, _, _, _, _, _, _, _, _, rfl, _⟩ := c; rfl) | (obtain ⟨_, _, _, _, _, _, _, _, _, _, _, _, rfl, _⟩ := c; rfl) | (obtain ⟨_, _, _, _, _, _, _, _, _, _, _, _, _, rfl, _⟩ := c; rfl) | (obtain ⟨_, rfl⟩ := c; rfl) | (obtain ⟨_, _, rfl⟩ := c; rfl) | (obtain ⟨_, _, _, rfl⟩ := c; rfl) | (obtain ⟨_, _, _, _, rfl⟩ := c; rfl) | (obtain ⟨_, _, _, _, _, rfl⟩ := c; rfl) | (obtain ⟨_, _, _, _, _, _, rfl⟩ := c; rfl) | (obtain ⟨_, _, _, _, _, _, _, rfl⟩ := c; rfl) | (obtain ⟨_, _, _, _, _, _, _, _, rfl⟩ := c; rfl) | (obtain ⟨_, _, _, _, _, _, _, _, _, rfl⟩ := c; rfl) | (obtain ⟨_, _, _, _, _, _, _, _, _, _, rfl⟩ := c; rfl) | (obtain ⟨_, _, _, _, _, _, _, _, _, _, _, rfl⟩ := c; rfl)) h) (fun hr => dv__law_bent_walk T (c__law_draw T) (c__law_pick T) hr) (bd__law_bent_walk T.tc)
theorem c__law_any_walk (T : Tx K mg a b) : FC P w K mg base 3 b._law_any_walk b.d__law_any_walk ["state", "model"] (@sp__law_any_walk ⟨w⟩ K a) :=
  letI : Wld := ⟨w⟩; FC.ofT T.d__law_any_walk sc__law_any_walk (fun vs H Q E h => spF_len (fun ds P c => by unfold C_law_any_walk at c; first | (obtain ⟨rfl, _⟩ := c; rfl) | (obtain ⟨_, rfl, _⟩ := c; rfl) | (obtain ⟨_, _, rfl, _⟩ := c; rfl) | (obtain ⟨_, _, _, rfl, _⟩ := c; rfl) | (obtain ⟨_, _, _, _, rfl, _⟩ := c; rfl) | (obtain ⟨_, _, _, _, _, rfl, _⟩ := c; rfl) | (obtain ⟨_, _, _, _, _, _, rfl, _⟩ := c; rfl) | (obtain ⟨_, _, _, _, _, _, _, rfl, _⟩ := c; rfl) | (obtain ⟨_, _, _, _, _, _, _, _, rfl, _⟩ := c; rfl) | (obtain ⟨_, _, _, _, _, _, _, _, _, rfl, _⟩ := c; rfl) | (obtain ⟨_, _, _, _, _, _, _, _, _, _, rfl, _⟩ := c; rfl) | (obtain ⟨_, _, _, _, _, _, _, _, _, _, _, rfl, _⟩ := c; rfl) | (obtain ⟨_, _, _, _, _, _, _, _, _, _, _, _, rfl, _⟩ := c; rfl) | (obtain ⟨_, _, _, _, _, _, _, _, _, _, _, _, _, rfl, _⟩ := c; rfl) | (obtain ⟨_, rfl⟩ := c; rfl) | (obtain ⟨_, _, rfl⟩ := c; rfl) | (obtain ⟨_, _, _, rfl⟩ := c; rfl) | (obtain ⟨_, _, _, _, rfl⟩ := c; rfl) | (obtain ⟨_, _, _, _, _, rfl⟩ := c; rfl) | (obtain ⟨_, _, _, _, _, _, rfl⟩ := c; rfl) | (obtain ⟨_, _, _, _, _, _, _, rfl⟩ := c; rfl) | (obtain ⟨_, _, _, _, _, _, _, _, rfl⟩ := c; rfl) | (obtain ⟨_, _, _, _, _, _, _, _, _, rfl⟩ := c; rfl) | (obtain ⟨_, _, _, _, _, _, _, _, _, _, rfl⟩ := c; rfl) | (obtain ⟨_, _, _, _, _, _, _, _, _, _, _, rfl⟩ := c; rfl)) h) (fun hr => dv__law_any_walk T (c__law_draw T) (c__law_pick T) hr) (bd__law_any_walk T.tc)
theorem c_Update_flows (T : Tx K mg a b) : FC P w K mg base 1 b.Update_flows b.d_Update_flows ["self"] (@sp_Update_flows ⟨w⟩ K a) :=
  letI : Wld := ⟨w⟩; FC.ofT T.d_Update_flows sc_Update_flows (fun vs H Q E h => spF_len (fun ds P c => by unfold C_Update_flows at c; first | (obtain ⟨rfl, _⟩ := c; rfl) | (obtain ⟨_, rfl, _⟩ := c; rfl) | (obtain ⟨_, _, rfl, _⟩ := c; rfl) | (obtain ⟨_, _, _, rfl, _⟩ := c; rfl) | (obtain ⟨_, _, _, _, rfl, _⟩ := c; rfl) | (obtain ⟨_, _, _, _, _, rfl, _⟩ := c; rfl) | (obtain ⟨_, _, _, _, _, _, rfl, _⟩ := c; rfl) | (obtain ⟨_, _, _, _, _, _, _, rfl, _⟩ := c; rfl) | (obtain ⟨_, _, _, _, _, _, _, _, rfl, _⟩ := c; rfl) | (obtain ⟨_, _, _, _, _, _, _, _, _, rfl, _⟩ := c; rfl) | (obtain ⟨_, _, _, _, _, _, _, _, _, _, rfl, _⟩ := c; rfl) | (obtain ⟨_, _, _, _, _, _, _, _, _, _, _, rfl, _⟩ := c; rfl) | (obtain ⟨_, _, _, _, _, _, _, _, _, _, _, _, rfl, _⟩ := c; rfl) | (obtain ⟨_, _, _, _, _, _, _, _, _, _, _, _, _, rfl, _⟩ := c; rfl) | (obtain ⟨_, rfl⟩ := c; rfl) | (obtain ⟨_, _, rfl⟩ := c; rfl) | (obtain ⟨_, _, _, rfl⟩ := c; rfl) | (obtain ⟨_, _, _, _, rfl⟩ := c; rfl) | (obtain ⟨_, _, _, _, _, rfl⟩ := c; rfl) | (obtain ⟨_, _, _, _, _, _, rfl⟩ := c; rfl) | (obtain ⟨_, _, _, _, _, _, _, rfl⟩ := c; rfl) | (obtain ⟨_, _, _, _, _, _, _, _, rfl⟩ := c; rfl) | (obtain ⟨_, _, _, _, _, _, _, _, _, rfl⟩ := c; rfl) | (obtain ⟨_, _, _, _, _, _, _, _, _, _, rfl⟩ := c; rfl) | (obtain ⟨_, _, _, _, _, _, _, _, _, _, _, rfl⟩ := c; rfl)) h) (fun hr => dv_Update_flows T hr) (bd_Update_flows T.tc)
theorem c_need_flow (T : Tx K mg a b) : FC P w K mg base 3 b.need_flow b.d_need_flow ["update", "flow"] (@sp_need_flow ⟨w⟩ K a) :=
  letI : Wld := ⟨w⟩; FC.ofT T.d_need_flow sc_need_flow (fun vs H Q E h => spF_len (fun ds P c => by unfold C_need_flow at c; first | (obtain ⟨rfl, _⟩ := c; rfl) | (obtain ⟨_, rfl, _⟩ := c; rfl) | (obtain ⟨_, _, rfl, _⟩ := c; rfl) | (obtain ⟨_, _, _, rfl, _⟩ := c; rfl) | (obtain ⟨_, _, _, _, rfl, _⟩ := c; rfl) | (obtain ⟨_, _, _, _, _, rfl, _⟩ := c; rfl) | (obtain ⟨_, _, _, _, _, _, rfl, _⟩ := c; rfl) | (obtain ⟨_, _, _, _, _, _, _, rfl, _⟩ := c; rfl) | (obtain ⟨_, _, _, _, _, _, _, _, rfl, _⟩ := c; rfl) | (obtain ⟨_, _, _, _, _, _, _, _, _, rfl, _⟩ := c; rfl) | (obtain ⟨_, _, _, _, _, _, _, _, _, _, rfl, _⟩ := c; rfl) | (obtain ⟨_, _, _, _, _, _, _, _, _, _, _, rfl, _⟩ := c; rfl) | (obtain ⟨_, _, _, _, _, _, _, _, _, _, _, _, rfl, _⟩ := c; rfl) | (obtain ⟨_, _, _, _, _, _, _, _, _, _, _, _, _, rfl, _⟩ := c; rfl) | (obtain ⟨_, rfl⟩ := c; rfl) | (obtain ⟨_, _, rfl⟩ := c; rfl) | (obtain ⟨_, _, _, rfl⟩ := c; rfl) | (obtain ⟨_, _, _, _, rfl⟩ := c; rfl) | (obtain ⟨_, _, _, _, _, rfl⟩ := c; rfl) | (obtain ⟨_, _, _, _, _, _, rfl⟩ := c; rfl) | (obtain ⟨_, _, _, _, _, _, _, rfl⟩ := c; rfl) | (obtain ⟨_, _, _, _, _, _, _, _, rfl⟩ := c; rfl) | (obtain ⟨_, _, _, _, _, _, _, _, _, rfl⟩ := c; rfl) | (obtain ⟨_, _, _, _, _, _, _, _, _, _, rfl⟩ := c; rfl) | (obtain ⟨_, _, _, _, _, _, _, _, _, _, _, rfl⟩ := c; rfl)) h) (fun hr => dv_need_flow T (c_Update_flows T) hr) (bd_need_flow T.tc)
theorem c_Update_network (T : Tx K mg a b) : FC P w K mg base 1 b.Update_network b.d_Update_network ["self"] (@sp_Update_network ⟨w⟩ K a) :=
  letI : Wld := ⟨w⟩; FC.ofT T.d_Update_network sc_Update_network (fun vs H Q E h => spF_len (fun ds P c => by unfold C_Update_network at c; first | (obtain ⟨rfl, _⟩ := c; rfl) | (obtain ⟨_, rfl, _⟩ := c; rfl) | (obtain ⟨_, _, rfl, _⟩ := c; rfl) | (obtain ⟨_, _, _, rfl, _⟩ := c; rfl) | (obtain ⟨_, _, _, _, rfl, _⟩ := c; rfl) | (obtain ⟨_, _, _, _, _, rfl, _⟩ := c; rfl) | (obtain ⟨_, _, _, _, _, _, rfl, _⟩ := c; rfl) | (obtain ⟨_, _, _, _, _, _, _, rfl, _⟩ := c; rfl) | (obtain ⟨_, _, _, _, _, _, _, _, rfl, _⟩ := c; rfl) | (obtain ⟨_, _, _, _, _, _, _, _, _, rfl, _⟩ := c; rfl) | (obtain ⟨_, _, _, _, _, _, _, _, _, _, rfl, _⟩ := c; rfl) | (obtain ⟨_, _, _, _, _, _, _, _, _, _, _, rfl, _⟩ := c; rfl) | (obtain ⟨_, _, _, _, _, _, _, _, _, _, _, _, rfl, _⟩ := c; rfl) | (obtain ⟨_, _, _, _, _, _, _, _, _, _, _, _, _, rfl, _⟩ := c; rfl) | (obtain ⟨_, rfl⟩ := c; rfl) | (obtain ⟨_, _, rfl⟩ := c; rfl) | (obtain ⟨_, _, _, rfl⟩ := c; rfl) | (obtain ⟨_, _, _, _, rfl⟩ := c; rfl) | (obtain ⟨_, _, _, _, _, rfl⟩ := c; rfl) | (obtain ⟨_, _, _, _, _, _, rfl⟩ := c; rfl) | (obtain ⟨_, _, _, _, _, _, _, rfl⟩ := c; rfl) | (obtain ⟨_, _, _, _, _, _, _, _, rfl⟩ := c; rfl) | (obtain ⟨_, _, _, _, _, _, _, _, _, rfl⟩ := c; rfl) | (obtain ⟨_, _, _, _, _, _, _, _, _, _, rfl⟩ := c; rfl) | (obtain ⟨_, _, _, _, _, _, _, _, _, _, _, rfl⟩ := c; rfl)) h) (fun hr => dv_Update_network T hr) (bd_Update_network T.tc)
theorem c_need_doubles (T : Tx K mg a b) : FC P w K mg base 4 b.need_doubles b.d_need_doubles ["update", "doubles"] (@sp_need_doubles ⟨w⟩ K a) :=
  letI : Wld := ⟨w⟩; FC.ofT T.d_need_doubles sc_need_doubles (fun vs H Q E h => spF_len (fun ds P c => by unfold C_need_doubles at c; first | (obtain ⟨rfl, _⟩ := c; rfl) | (obtain ⟨_, rfl, _⟩ := c; rfl) | (obtain ⟨_, _, rfl, _⟩ := c; rfl) | (obtain ⟨_, _, _, rfl, _⟩ := c; rfl) | (obtain ⟨_, _, _, _, rfl, _⟩ := c; rfl) | (obtain ⟨_, _, _, _, _, rfl, _⟩ := c; rfl) | (obtain ⟨_, _, _, _, _, _, rfl, _⟩ := c; rfl) | (obtain ⟨_, _, _, _, _, _, _, rfl, _⟩ := c; rfl) | (obtain ⟨_, _, _, _, _, _, _, _, rfl, _⟩ := c; rfl) | (obtain ⟨_, _, _, _, _, _, _, _, _, rfl, _⟩ := c; rfl) | (obtain ⟨_, _, _, _, _, _, _, _, _, _, rfl, _⟩ := c; rfl) | (obtain ⟨_, _, _, _, _, _, _, _, _, _, _, rfl, _⟩ := c; rfl) | (obtain ⟨_, _, _, _, _, _, _, _, _, _, _, _, rfl, _⟩ := c; rfl) | (obtain ⟨_, _, _, _, _, _, _, _, _, _, _, _, _, rfl, _⟩ := c; rfl) | (obtain ⟨_, rfl⟩ := c; rfl) | (obtain ⟨_, _, rfl⟩ := c; rfl) | (obtain ⟨_, _, _, rfl⟩ := c; rfl) | (obtain ⟨_, _, _, _, rfl⟩ := c; rfl) | (obtain ⟨_, _, _, _, _, rfl⟩ := c; rfl) | (obtain ⟨_, _, _, _, _, _, rfl⟩ := c; rfl) | (obtain ⟨_, _, _, _, _, _, _, rfl⟩ := c; rfl) | (obtain ⟨_, _, _, _, _, _, _, _, rfl⟩ := c; rfl) | (obtain ⟨_, _, _, _, _, _, _, _, _, rfl⟩ := c; rfl) | (obtain ⟨_, _, _, _, _, _, _, _, _, _, rfl⟩ := c; rfl) | (obtain ⟨_, _, _, _, _, _, _, _, _, _, _, rfl⟩ := c; rfl)) h) (fun hr => dv_need_doubles T (c_is_node T) (c_Update_network T) hr) (bd_need_doubles T.tc)
theorem c_is_walk (T : Tx K mg a b) : FC P w K mg base 5 b.is_walk b.d_is_walk ["network", "value"] (@sp_is_walk ⟨w⟩ K a) :=
  letI : Wld := ⟨w⟩; FC.ofT T.d_is_walk sc_is_walk (fun vs H Q E h => spF_len (fun ds P c => by unfold C_is_walk at c; first | (obtain ⟨rfl, _⟩ := c; rfl) | (obtain ⟨_, rfl, _⟩ := c; rfl) | (obtain ⟨_, _, rfl, _⟩ := c; rfl) | (obtain ⟨_, _, _, rfl, _⟩ := c; rfl) | (obtain ⟨_, _, _, _, rfl, _⟩ := c; rfl) | (obtain ⟨_, _, _, _, _, rfl, _⟩ := c; rfl) | (obtain ⟨_, _, _, _, _, _, rfl, _⟩ := c; rfl) | (obtain ⟨_, _, _, _, _, _, _, rfl, _⟩ := c; rfl) | (obtain ⟨_, _, _, _, _, _, _, _, rfl, _⟩ := c; rfl) | (obtain ⟨_, _, _, _, _, _, _, _, _, rfl, _⟩ := c; rfl) | (obtain ⟨_, _, _, _, _, _, _, _, _, _, rfl, _⟩ := c; rfl) | (obtain ⟨_, _, _, _, _, _, _, _, _, _, _, rfl, _⟩ := c; rfl) | (obtain ⟨_, _, _, _, _, _, _, _, _, _, _, _, rfl, _⟩ := c; rfl) | (obtain ⟨_, _, _, _, _, _, _, _, _, _, _, _, _, rfl, _⟩ := c; rfl) | (obtain ⟨_, rfl⟩ := c; rfl) | (obtain ⟨_, _, rfl⟩ := c; rfl) | (obtain ⟨_, _, _, rfl⟩ := c; rfl) | (obtain ⟨_, _, _, _, rfl⟩ := c; rfl) | (obtain ⟨_, _, _, _, _, rfl⟩ := c; rfl) | (obtain ⟨_, _, _, _, _, _, rfl⟩ := c; rfl) | (obtain ⟨_, _, _, _, _, _, _, rfl⟩ := c; rfl) | (obtain ⟨_, _, _, _, _, _, _, _, rfl⟩ := c; rfl) | (obtain ⟨_, _, _, _, _, _, _, _, _, rfl⟩ := c; rfl) | (obtain ⟨_, _, _, _, _, _, _, _, _, _, rfl⟩ := c; rfl) | (obtain ⟨_, _, _, _, _, _, _, _, _, _, _, rfl⟩ := c; rfl)) h) (fun hr => dv_is_walk T (c_is_node T) (c_is_hop T) hr) (bd_is_walk T.tc)
theorem c_need_walk (T : Tx K mg a b) : FC P w K mg base 6 b.need_walk b.d_need_walk ["update", "walk"] (@sp_need_walk ⟨w⟩ K a) :=
  letI : Wld := ⟨w⟩; FC.ofT T.d_need_walk sc_need_walk (fun vs H Q E h => spF_len (fun ds P c => by unfold C_need_walk at c; first | (obtain ⟨rfl, _⟩ := c; rfl) | (obtain ⟨_, rfl, _⟩ := c; rfl) | (obtain ⟨_, _, rfl, _⟩ := c; rfl) | (obtain ⟨_, _, _, rfl, _⟩ := c; rfl) | (obtain ⟨_, _, _, _, rfl, _⟩ := c; rfl) | (obtain ⟨_, _, _, _, _, rfl, _⟩ := c; rfl) | (obtain ⟨_, _, _, _, _, _, rfl, _⟩ := c; rfl) | (obtain ⟨_, _, _, _, _, _, _, rfl, _⟩ := c; rfl) | (obtain ⟨_, _, _, _, _, _, _, _, rfl, _⟩ := c; rfl) | (obtain ⟨_, _, _, _, _, _, _, _, _, rfl, _⟩ := c; rfl) | (obtain ⟨_, _, _, _, _, _, _, _, _, _, rfl, _⟩ := c; rfl) | (obtain ⟨_, _, _, _, _, _, _, _, _, _, _, rfl, _⟩ := c; rfl) | (obtain ⟨_, _, _, _, _, _, _, _, _, _, _, _, rfl, _⟩ := c; rfl) | (obtain ⟨_, _, _, _, _, _, _, _, _, _, _, _, _, rfl, _⟩ := c; rfl) | (obtain ⟨_, rfl⟩ := c; rfl) | (obtain ⟨_, _, rfl⟩ := c; rfl) | (obtain ⟨_, _, _, rfl⟩ := c; rfl) | (obtain ⟨_, _, _, _, rfl⟩ := c; rfl) | (obtain ⟨_, _, _, _, _, rfl⟩ := c; rfl) | (obtain ⟨_, _, _, _, _, _, rfl⟩ := c; rfl) | (obtain ⟨_, _, _, _, _, _, _, rfl⟩ := c; rfl) | (obtain ⟨_, _, _, _, _, _, _, _, rfl⟩ := c; rfl) | (obtain ⟨_, _, _, _, _, _, _, _, _, rfl⟩ := c; rfl) | (obtain ⟨_, _, _, _, _, _, _, _, _, _, rfl⟩ := c; rfl) | (obtain ⟨_, _, _, _, _, _, _, _, _, _, _, rfl⟩ := c; rfl)) h) (fun hr => dv_need_walk T (c_is_walk T) (c_Update_network T) hr) (bd_need_walk T.tc)
theorem c_need_all (T : Tx K mg a b) : FC P w K mg base 7 b.need_all b.d_need_all ["update", "flow", "doubles", "walk"] (@sp_need_all ⟨w⟩ K a) :=
  letI : Wld := ⟨w⟩; FC.ofT T.d_need_all sc_need_all (fun vs H Q E h => spF_len (fun ds P c => by unfold C_need_all at c; first | (obtain ⟨rfl, _⟩ := c; rfl) | (obtain ⟨_, rfl, _⟩ := c; rfl) | (obtain ⟨_, _, rfl, _⟩ := c; rfl) | (obtain ⟨_, _, _, rfl, _⟩ := c; rfl) | (obtain ⟨_, _, _, _, rfl, _⟩ := c; rfl) | (obtain ⟨_, _, _, _, _, rfl, _⟩ := c; rfl) | (obtain ⟨_, _, _, _, _, _, rfl, _⟩ := c; rfl) | (obtain ⟨_, _, _, _, _, _, _, rfl, _⟩ := c; rfl) | (obtain ⟨_, _, _, _, _, _, _, _, rfl, _⟩ := c; rfl) | (obtain ⟨_, _, _, _, _, _, _, _, _, rfl, _⟩ := c; rfl) | (obtain ⟨_, _, _, _, _, _, _, _, _, _, rfl, _⟩ := c; rfl) | (obtain ⟨_, _, _, _, _, _, _, _, _, _, _, rfl, _⟩ := c; rfl) | (obtain ⟨_, _, _, _, _, _, _, _, _, _, _, _, rfl, _⟩ := c; rfl) | (obtain ⟨_, _, _, _, _, _, _, _, _, _, _, _, _, rfl, _⟩ := c; rfl) | (obtain ⟨_, rfl⟩ := c; rfl) | (obtain ⟨_, _, rfl⟩ := c; rfl) | (obtain ⟨_, _, _, rfl⟩ := c; rfl) | (obtain ⟨_, _, _, _, rfl⟩ := c; rfl) | (obtain ⟨_, _, _, _, _, rfl⟩ := c; rfl) | (obtain ⟨_, _, _, _, _, _, rfl⟩ := c; rfl) | (obtain ⟨_, _, _, _, _, _, _, rfl⟩ := c; rfl) | (obtain ⟨_, _, _, _, _, _, _, _, rfl⟩ := c; rfl) | (obtain ⟨_, _, _, _, _, _, _, _, _, rfl⟩ := c; rfl) | (obtain ⟨_, _, _, _, _, _, _, _, _, _, rfl⟩ := c; rfl) | (obtain ⟨_, _, _, _, _, _, _, _, _, _, _, rfl⟩ := c; rfl)) h) (fun hr => dv_need_all T (c_need_flow T) (c_need_doubles T) (c_need_walk T) hr) (bd_need_all T.tc)
theorem c_Update_old (T : Tx K mg a b) : FC P w K mg base 4 b.Update_old b.d_Update_old ["self", "flow"] (@sp_Update_old ⟨w⟩ K a) :=
  letI : Wld := ⟨w⟩; FC.ofT T.d_Update_old sc_Update_old (fun vs H Q E h => spF_len (fun ds P c => by unfold C_Update_old at c; first | (obtain ⟨rfl, _⟩ := c; rfl) | (obtain ⟨_, rfl, _⟩ := c; rfl) | (obtain ⟨_, _, rfl, _⟩ := c; rfl) | (obtain ⟨_, _, _, rfl, _⟩ := c; rfl) | (obtain ⟨_, _, _, _, rfl, _⟩ := c; rfl) | (obtain ⟨_, _, _, _, _, rfl, _⟩ := c; rfl) | (obtain ⟨_, _, _, _, _, _, rfl, _⟩ := c; rfl) | (obtain ⟨_, _, _, _, _, _, _, rfl, _⟩ := c; rfl) | (obtain ⟨_, _, _, _, _, _, _, _, rfl, _⟩ := c; rfl) | (obtain ⟨_, _, _, _, _, _, _, _, _, rfl, _⟩ := c; rfl) | (obtain ⟨_, _, _, _, _, _, _, _, _, _, rfl, _⟩ := c; rfl) | (obtain ⟨_, _, _, _, _, _, _, _, _, _, _, rfl, _⟩ := c; rfl) | (obtain ⟨_, _, _, _, _, _, _, _, _, _, _, _, rfl, _⟩ := c; rfl) | (obtain ⟨_, _, _, _, _, _, _, _, _, _, _, _, _, rfl, _⟩ := c; rfl) | (obtain ⟨_, rfl⟩ := c; rfl) | (obtain ⟨_, _, rfl⟩ := c; rfl) | (obtain ⟨_, _, _, rfl⟩ := c; rfl) | (obtain ⟨_, _, _, _, rfl⟩ := c; rfl) | (obtain ⟨_, _, _, _, _, rfl⟩ := c; rfl) | (obtain ⟨_, _, _, _, _, _, rfl⟩ := c; rfl) | (obtain ⟨_, _, _, _, _, _, _, rfl⟩ := c; rfl) | (obtain ⟨_, _, _, _, _, _, _, _, rfl⟩ := c; rfl) | (obtain ⟨_, _, _, _, _, _, _, _, _, rfl⟩ := c; rfl) | (obtain ⟨_, _, _, _, _, _, _, _, _, _, rfl⟩ := c; rfl) | (obtain ⟨_, _, _, _, _, _, _, _, _, _, _, rfl⟩ := c; rfl)) h) (fun hr => dv_Update_old T (c_need_flow T) hr) (bd_Update_old T.tc)
theorem c_Table___getitem__ (T : Tx K mg a b) : FC P w K mg base 4 b.Table___getitem__ b.d_Table___getitem__ ["self", "node"] (@sp_Table___getitem__ ⟨w⟩ K a) :=
  letI : Wld := ⟨w⟩; FC.ofT T.d_Table___getitem__ sc_Table___getitem__ (fun vs H Q E h => spF_len (fun ds P c => by unfold C_Table_getitem at c; first | (obtain ⟨rfl, _⟩ := c; rfl) | (obtain ⟨_, rfl, _⟩ := c; rfl) | (obtain ⟨_, _, rfl, _⟩ := c; rfl) | (obtain ⟨_, _, _, rfl, _⟩ := c; rfl) | (obtain ⟨_, _, _, _, rfl, _⟩ := c; rfl) | (obtain ⟨_, _, _, _, _, rfl, _⟩ := c; rfl) | (obtain ⟨_, _, _, _, _, _, rfl, _⟩ := c; rfl) | (obtain ⟨_, _, _, _, _, _, _, rfl, _⟩ := c; rfl) | (obtain ⟨_, _, _, _, _, _, _, _, rfl, _⟩ := c; rfl) | (obtain ⟨_, _, _, _, _, _, _, _, _, rfl, _⟩ := c; rfl) | (obtain ⟨_, _, _, _, _, _, _, _, _, _, rfl, _⟩ := c; rfl) | (obtain ⟨_, _, _, _, _, _, _, _, _, _, _, rfl, _⟩ := c; rfl) | (obtain ⟨_, _, _, _, _, _, _, _, _, _, _, _, rfl, _⟩ := c; rfl) | (obtain ⟨_, _, _, _, _, _, _, _, _, _, _, _, _, rfl, _⟩ := c; rfl) | (obtain ⟨_, rfl⟩ := c; rfl) | (obtain ⟨_, _, rfl⟩ := c; rfl) | (obtain ⟨_, _, _, rfl⟩ := c; rfl) | (obtain ⟨_, _, _, _, rfl⟩ := c; rfl) | (obtain ⟨_, _, _, _, _, rfl⟩ := c; rfl) | (obtain ⟨_, _, _, _, _, _, rfl⟩ := c; rfl) | (obtain ⟨_, _, _, _, _, _, _, rfl⟩ := c; rfl) | (obtain ⟨_, _, _, _, _, _, _, _, rfl⟩ := c; rfl) | (obtain ⟨_, _, _, _, _, _, _, _, _, rfl⟩ := c; rfl) | (obtain ⟨_, _, _, _, _, _, _, _, _, _, rfl⟩ := c; rfl) | (obtain ⟨_, _, _, _, _, _, _, _, _, _, _, rfl⟩ := c; rfl)) h) (fun hr => dv_Table___getitem__ T (c_is_node T) hr) (bd_Table___getitem__ T.tc)
theorem c_Plan_step_of (T : Tx K mg a b) : FC P w K mg base 1 b.Plan_step_of b.d_Plan_step_of ["self", "node"] (@sp_Plan_step_of ⟨w⟩ K a) :=
  letI : Wld := ⟨w⟩; FC.ofT T.d_Plan_step_of sc_Plan_step_of (fun vs H Q E h => spF_len (fun ds P c => by unfold C_Plan_step_of at c; first | (obtain ⟨rfl, _⟩ := c; rfl) | (obtain ⟨_, rfl, _⟩ := c; rfl) | (obtain ⟨_, _, rfl, _⟩ := c; rfl) | (obtain ⟨_, _, _, rfl, _⟩ := c; rfl) | (obtain ⟨_, _, _, _, rfl, _⟩ := c; rfl) | (obtain ⟨_, _, _, _, _, rfl, _⟩ := c; rfl) | (obtain ⟨_, _, _, _, _, _, rfl, _⟩ := c; rfl) | (obtain ⟨_, _, _, _, _, _, _, rfl, _⟩ := c; rfl) | (obtain ⟨_, _, _, _, _, _, _, _, rfl, _⟩ := c; rfl) | (obtain ⟨_, _, _, _, _, _, _, _, _, rfl, _⟩ := c; rfl) | (obtain ⟨_, _, _, _, _, _, _, _, _, _, rfl, _⟩ := c; rfl) | (obtain ⟨_, _, _, _, _, _, _, _, _, _, _, rfl, _⟩ := c; rfl) | (obtain ⟨_, _, _, _, _, _, _, _, _, _, _, _, rfl, _⟩ := c; rfl) | (obtain ⟨_, _, _, _, _, _, _, _, _, _, _, _, _, rfl, _⟩ := c; rfl) | (obtain ⟨_, rfl⟩ := c; rfl) | (obtain ⟨_, _, rfl⟩ := c; rfl) | (obtain ⟨_, _, _, rfl⟩ := c; rfl) | (obtain ⟨_, _, _, _, rfl⟩ := c; rfl) | (obtain ⟨_, _, _, _, _, rfl⟩ := c; rfl) | (obtain ⟨_, _, _, _, _, _, rfl⟩ := c; rfl) | (obtain ⟨_, _, _, _, _, _, _, rfl⟩ := c; rfl) | (obtain ⟨_, _, _, _, _, _, _, _, rfl⟩ := c; rfl) | (obtain ⟨_, _, _, _, _, _, _, _, _, rfl⟩ := c; rfl) | (obtain ⟨_, _, _, _, _, _, _, _, _, _, rfl⟩ := c; rfl) | (obtain ⟨_, _, _, _, _, _, _, _, _, _, _, rfl⟩ := c; rfl)) h) (fun hr => dv_Plan_step_of T hr) (bd_Plan_step_of T.tc)
theorem c_Update_new (T : Tx K mg a b) : FC P w K mg base 4 b.Update_new b.d_Update_new ["self", "flow"] (@sp_Update_new ⟨w⟩ K a) :=
  letI : Wld := ⟨w⟩; FC.ofT T.d_Update_new sc_Update_new (fun vs H Q E h => spF_len (fun ds P c => by unfold C_Update_new at c; first | (obtain ⟨rfl, _⟩ := c; rfl) | (obtain ⟨_, rfl, _⟩ := c; rfl) | (obtain ⟨_, _, rfl, _⟩ := c; rfl) | (obtain ⟨_, _, _, rfl, _⟩ := c; rfl) | (obtain ⟨_, _, _, _, rfl, _⟩ := c; rfl) | (obtain ⟨_, _, _, _, _, rfl, _⟩ := c; rfl) | (obtain ⟨_, _, _, _, _, _, rfl, _⟩ := c; rfl) | (obtain ⟨_, _, _, _, _, _, _, rfl, _⟩ := c; rfl) | (obtain ⟨_, _, _, _, _, _, _, _, rfl, _⟩ := c; rfl) | (obtain ⟨_, _, _, _, _, _, _, _, _, rfl, _⟩ := c; rfl) | (obtain ⟨_, _, _, _, _, _, _, _, _, _, rfl, _⟩ := c; rfl) | (obtain ⟨_, _, _, _, _, _, _, _, _, _, _, rfl, _⟩ := c; rfl) | (obtain ⟨_, _, _, _, _, _, _, _, _, _, _, _, rfl, _⟩ := c; rfl) | (obtain ⟨_, _, _, _, _, _, _, _, _, _, _, _, _, rfl, _⟩ := c; rfl) | (obtain ⟨_, rfl⟩ := c; rfl) | (obtain ⟨_, _, rfl⟩ := c; rfl) | (obtain ⟨_, _, _, rfl⟩ := c; rfl) | (obtain ⟨_, _, _, _, rfl⟩ := c; rfl) | (obtain ⟨_, _, _, _, _, rfl⟩ := c; rfl) | (obtain ⟨_, _, _, _, _, _, rfl⟩ := c; rfl) | (obtain ⟨_, _, _, _, _, _, _, rfl⟩ := c; rfl) | (obtain ⟨_, _, _, _, _, _, _, _, rfl⟩ := c; rfl) | (obtain ⟨_, _, _, _, _, _, _, _, _, rfl⟩ := c; rfl) | (obtain ⟨_, _, _, _, _, _, _, _, _, _, rfl⟩ := c; rfl) | (obtain ⟨_, _, _, _, _, _, _, _, _, _, _, rfl⟩ := c; rfl)) h) (fun hr => dv_Update_new T (c_need_flow T) hr) (bd_Update_new T.tc)
theorem c_word_of (T : Tx K mg a b) : FC P w K mg base 6 b.word_of b.d_word_of ["update", "flow", "plan", "node", "hop"] (@sp_word_of ⟨w⟩ K a) :=
  letI : Wld := ⟨w⟩; FC.ofT T.d_word_of sc_word_of (fun vs H Q E h => spF_len (fun ds P c => by unfold C_word_of at c; first | (obtain ⟨rfl, _⟩ := c; rfl) | (obtain ⟨_, rfl, _⟩ := c; rfl) | (obtain ⟨_, _, rfl, _⟩ := c; rfl) | (obtain ⟨_, _, _, rfl, _⟩ := c; rfl) | (obtain ⟨_, _, _, _, rfl, _⟩ := c; rfl) | (obtain ⟨_, _, _, _, _, rfl, _⟩ := c; rfl) | (obtain ⟨_, _, _, _, _, _, rfl, _⟩ := c; rfl) | (obtain ⟨_, _, _, _, _, _, _, rfl, _⟩ := c; rfl) | (obtain ⟨_, _, _, _, _, _, _, _, rfl, _⟩ := c; rfl) | (obtain ⟨_, _, _, _, _, _, _, _, _, rfl, _⟩ := c; rfl) | (obtain ⟨_, _, _, _, _, _, _, _, _, _, rfl, _⟩ := c; rfl) | (obtain ⟨_, _, _, _, _, _, _, _, _, _, _, rfl, _⟩ := c; rfl) | (obtain ⟨_, _, _, _, _, _, _, _, _, _, _, _, rfl, _⟩ := c; rfl) | (obtain ⟨_, _, _, _, _, _, _, _, _, _, _, _, _, rfl, _⟩ := c; rfl) | (obtain ⟨_, rfl⟩ := c; rfl) | (obtain ⟨_, _, rfl⟩ := c; rfl) | (obtain ⟨_, _, _, rfl⟩ := c; rfl) | (obtain ⟨_, _, _, _, rfl⟩ := c; rfl) | (obtain ⟨_, _, _, _, _, rfl⟩ := c; rfl) | (obtain ⟨_, _, _, _, _, _, rfl⟩ := c; rfl) | (obtain ⟨_, _, _, _, _, _, _, rfl⟩ := c; rfl) | (obtain ⟨_, _, _, _, _, _, _, _, rfl⟩ := c; rfl) | (obtain ⟨_, _, _, _, _, _, _, _, _, rfl⟩ := c; rfl) | (obtain ⟨_, _, _, _, _, _, _, _, _, _, rfl⟩ := c; rfl) | (obtain ⟨_, _, _, _, _, _, _, _, _, _, _, rfl⟩ := c; rfl)) h) (fun hr => dv_word_of T (c_Update_old T) (c_Table___getitem__ T) (c_Plan_step_of T) (c_Update_new T) hr) (bd_word_of T.tc)
theorem c_seen_words (T : Tx K mg a b) : FC P w K mg base 7 b.seen_words b.d_seen_words ["update", "flow", "plan", "walk"] (@sp_seen_words ⟨w⟩ K a) :=
  letI : Wld := ⟨w⟩; FC.ofT T.d_seen_words sc_seen_words (fun vs H Q E h => spF_len (fun ds P c => by unfold C_seen_words at c; first | (obtain ⟨rfl, _⟩ := c; rfl) | (obtain ⟨_, rfl, _⟩ := c; rfl) | (obtain ⟨_, _, rfl, _⟩ := c; rfl) | (obtain ⟨_, _, _, rfl, _⟩ := c; rfl) | (obtain ⟨_, _, _, _, rfl, _⟩ := c; rfl) | (obtain ⟨_, _, _, _, _, rfl, _⟩ := c; rfl) | (obtain ⟨_, _, _, _, _, _, rfl, _⟩ := c; rfl) | (obtain ⟨_, _, _, _, _, _, _, rfl, _⟩ := c; rfl) | (obtain ⟨_, _, _, _, _, _, _, _, rfl, _⟩ := c; rfl) | (obtain ⟨_, _, _, _, _, _, _, _, _, rfl, _⟩ := c; rfl) | (obtain ⟨_, _, _, _, _, _, _, _, _, _, rfl, _⟩ := c; rfl) | (obtain ⟨_, _, _, _, _, _, _, _, _, _, _, rfl, _⟩ := c; rfl) | (obtain ⟨_, _, _, _, _, _, _, _, _, _, _, _, rfl, _⟩ := c; rfl) | (obtain ⟨_, _, _, _, _, _, _, _, _, _, _, _, _, rfl, _⟩ := c; rfl) | (obtain ⟨_, rfl⟩ := c; rfl) | (obtain ⟨_, _, rfl⟩ := c; rfl) | (obtain ⟨_, _, _, rfl⟩ := c; rfl) | (obtain ⟨_, _, _, _, rfl⟩ := c; rfl) | (obtain ⟨_, _, _, _, _, rfl⟩ := c; rfl) | (obtain ⟨_, _, _, _, _, _, rfl⟩ := c; rfl) | (obtain ⟨_, _, _, _, _, _, _, rfl⟩ := c; rfl) | (obtain ⟨_, _, _, _, _, _, _, _, rfl⟩ := c; rfl) | (obtain ⟨_, _, _, _, _, _, _, _, _, rfl⟩ := c; rfl) | (obtain ⟨_, _, _, _, _, _, _, _, _, _, rfl⟩ := c; rfl) | (obtain ⟨_, _, _, _, _, _, _, _, _, _, _, rfl⟩ := c; rfl)) h) (fun hr => dv_seen_words T (c_word_of T) hr) (bd_seen_words T.tc)
theorem c_need_steps (T : Tx K mg a b) : FC P w K mg base 2 b.need_steps b.d_need_steps ["steps"] (@sp_need_steps ⟨w⟩ K a) :=
  letI : Wld := ⟨w⟩; FC.ofT T.d_need_steps sc_need_steps (fun vs H Q E h => spF_len (fun ds P c => by unfold C_need_steps at c; first | (obtain ⟨rfl, _⟩ := c; rfl) | (obtain ⟨_, rfl, _⟩ := c; rfl) | (obtain ⟨_, _, rfl, _⟩ := c; rfl) | (obtain ⟨_, _, _, rfl, _⟩ := c; rfl) | (obtain ⟨_, _, _, _, rfl, _⟩ := c; rfl) | (obtain ⟨_, _, _, _, _, rfl, _⟩ := c; rfl) | (obtain ⟨_, _, _, _, _, _, rfl, _⟩ := c; rfl) | (obtain ⟨_, _, _, _, _, _, _, rfl, _⟩ := c; rfl) | (obtain ⟨_, _, _, _, _, _, _, _, rfl, _⟩ := c; rfl) | (obtain ⟨_, _, _, _, _, _, _, _, _, rfl, _⟩ := c; rfl) | (obtain ⟨_, _, _, _, _, _, _, _, _, _, rfl, _⟩ := c; rfl) | (obtain ⟨_, _, _, _, _, _, _, _, _, _, _, rfl, _⟩ := c; rfl) | (obtain ⟨_, _, _, _, _, _, _, _, _, _, _, _, rfl, _⟩ := c; rfl) | (obtain ⟨_, _, _, _, _, _, _, _, _, _, _, _, _, rfl, _⟩ := c; rfl) | (obtain ⟨_, rfl⟩ := c; rfl) | (obtain ⟨_, _, rfl⟩ := c; rfl) | (obtain ⟨_, _, _, rfl⟩ := c; rfl) | (obtain ⟨_, _, _, _, rfl⟩ := c; rfl) | (obtain ⟨_, _, _, _, _, rfl⟩ := c; rfl) | (obtain ⟨_, _, _, _, _, _, rfl⟩ := c; rfl) | (obtain ⟨_, _, _, _, _, _, _, rfl⟩ := c; rfl) | (obtain ⟨_, _, _, _, _, _, _, _, rfl⟩ := c; rfl) | (obtain ⟨_, _, _, _, _, _, _, _, _, rfl⟩ := c; rfl) | (obtain ⟨_, _, _, _, _, _, _, _, _, _, rfl⟩ := c; rfl) | (obtain ⟨_, _, _, _, _, _, _, _, _, _, _, rfl⟩ := c; rfl)) h) (fun hr => dv_need_steps T (c_is_name T) hr) (bd_need_steps T.tc)
theorem c_need_waits (T : Tx K mg a b) : FC P w K mg base 1 b.need_waits b.d_need_waits ["many", "waits"] (@sp_need_waits ⟨w⟩ K a) :=
  letI : Wld := ⟨w⟩; FC.ofT T.d_need_waits sc_need_waits (fun vs H Q E h => spF_len (fun ds P c => by unfold C_need_waits at c; first | (obtain ⟨rfl, _⟩ := c; rfl) | (obtain ⟨_, rfl, _⟩ := c; rfl) | (obtain ⟨_, _, rfl, _⟩ := c; rfl) | (obtain ⟨_, _, _, rfl, _⟩ := c; rfl) | (obtain ⟨_, _, _, _, rfl, _⟩ := c; rfl) | (obtain ⟨_, _, _, _, _, rfl, _⟩ := c; rfl) | (obtain ⟨_, _, _, _, _, _, rfl, _⟩ := c; rfl) | (obtain ⟨_, _, _, _, _, _, _, rfl, _⟩ := c; rfl) | (obtain ⟨_, _, _, _, _, _, _, _, rfl, _⟩ := c; rfl) | (obtain ⟨_, _, _, _, _, _, _, _, _, rfl, _⟩ := c; rfl) | (obtain ⟨_, _, _, _, _, _, _, _, _, _, rfl, _⟩ := c; rfl) | (obtain ⟨_, _, _, _, _, _, _, _, _, _, _, rfl, _⟩ := c; rfl) | (obtain ⟨_, _, _, _, _, _, _, _, _, _, _, _, rfl, _⟩ := c; rfl) | (obtain ⟨_, _, _, _, _, _, _, _, _, _, _, _, _, rfl, _⟩ := c; rfl) | (obtain ⟨_, rfl⟩ := c; rfl) | (obtain ⟨_, _, rfl⟩ := c; rfl) | (obtain ⟨_, _, _, rfl⟩ := c; rfl) | (obtain ⟨_, _, _, _, rfl⟩ := c; rfl) | (obtain ⟨_, _, _, _, _, rfl⟩ := c; rfl) | (obtain ⟨_, _, _, _, _, _, rfl⟩ := c; rfl) | (obtain ⟨_, _, _, _, _, _, _, rfl⟩ := c; rfl) | (obtain ⟨_, _, _, _, _, _, _, _, rfl⟩ := c; rfl) | (obtain ⟨_, _, _, _, _, _, _, _, _, rfl⟩ := c; rfl) | (obtain ⟨_, _, _, _, _, _, _, _, _, _, rfl⟩ := c; rfl) | (obtain ⟨_, _, _, _, _, _, _, _, _, _, _, rfl⟩ := c; rfl)) h) (fun hr => dv_need_waits T hr) (bd_need_waits T.tc)
theorem c_Plan___init__ (T : Tx K mg a b) : FP P w K mg base 3 b.Plan___init__ b.d_Plan___init__ ["self", "steps", "waits"] (@sp_Plan___init__ ⟨w⟩ K a) :=
  letI : Wld := ⟨w⟩; ⟨T.d_Plan___init__.ok sc_Plan___init__ (fun vs H Q E h => spI_len (fun ds P c => by unfold C_Plan_init at c; first | (obtain ⟨rfl, _⟩ := c; rfl) | (obtain ⟨_, rfl, _⟩ := c; rfl) | (obtain ⟨_, _, rfl, _⟩ := c; rfl) | (obtain ⟨_, _, _, rfl, _⟩ := c; rfl) | (obtain ⟨_, _, _, _, rfl, _⟩ := c; rfl) | (obtain ⟨_, _, _, _, _, rfl, _⟩ := c; rfl) | (obtain ⟨_, _, _, _, _, _, rfl, _⟩ := c; rfl) | (obtain ⟨_, _, _, _, _, _, _, rfl, _⟩ := c; rfl) | (obtain ⟨_, _, _, _, _, _, _, _, rfl, _⟩ := c; rfl) | (obtain ⟨_, _, _, _, _, _, _, _, _, rfl, _⟩ := c; rfl) | (obtain ⟨_, _, _, _, _, _, _, _, _, _, rfl, _⟩ := c; rfl) | (obtain ⟨_, _, _, _, _, _, _, _, _, _, _, rfl, _⟩ := c; rfl) | (obtain ⟨_, _, _, _, _, _, _, _, _, _, _, _, rfl, _⟩ := c; rfl) | (obtain ⟨_, _, _, _, _, _, _, _, _, _, _, _, _, rfl, _⟩ := c; rfl) | (obtain ⟨_, rfl⟩ := c; rfl) | (obtain ⟨_, _, rfl⟩ := c; rfl) | (obtain ⟨_, _, _, rfl⟩ := c; rfl) | (obtain ⟨_, _, _, _, rfl⟩ := c; rfl) | (obtain ⟨_, _, _, _, _, rfl⟩ := c; rfl) | (obtain ⟨_, _, _, _, _, _, rfl⟩ := c; rfl) | (obtain ⟨_, _, _, _, _, _, _, rfl⟩ := c; rfl) | (obtain ⟨_, _, _, _, _, _, _, _, rfl⟩ := c; rfl) | (obtain ⟨_, _, _, _, _, _, _, _, _, rfl⟩ := c; rfl) | (obtain ⟨_, _, _, _, _, _, _, _, _, _, rfl⟩ := c; rfl) | (obtain ⟨_, _, _, _, _, _, _, _, _, _, _, rfl⟩ := c; rfl)) h) fun cdv A outer s H vs Q E hr q => ⟨t_Plan___init__ K a, dv_Plan___init__ T (c_need_steps T) (c_need_waits T) hr outer H E, bd_Plan___init__ T.tc q⟩, T.d_Plan___init__.kp⟩
theorem c_whole_plan (T : Tx K mg a b) : FC P w K mg base 5 b.whole_plan b.d_whole_plan ["update"] (@sp_whole_plan ⟨w⟩ K a) :=
  letI : Wld := ⟨w⟩; FC.ofT T.d_whole_plan sc_whole_plan (fun vs H Q E h => spF_len (fun ds P c => by unfold C_whole_plan at c; first | (obtain ⟨rfl, _⟩ := c; rfl) | (obtain ⟨_, rfl, _⟩ := c; rfl) | (obtain ⟨_, _, rfl, _⟩ := c; rfl) | (obtain ⟨_, _, _, rfl, _⟩ := c; rfl) | (obtain ⟨_, _, _, _, rfl, _⟩ := c; rfl) | (obtain ⟨_, _, _, _, _, rfl, _⟩ := c; rfl) | (obtain ⟨_, _, _, _, _, _, rfl, _⟩ := c; rfl) | (obtain ⟨_, _, _, _, _, _, _, rfl, _⟩ := c; rfl) | (obtain ⟨_, _, _, _, _, _, _, _, rfl, _⟩ := c; rfl) | (obtain ⟨_, _, _, _, _, _, _, _, _, rfl, _⟩ := c; rfl) | (obtain ⟨_, _, _, _, _, _, _, _, _, _, rfl, _⟩ := c; rfl) | (obtain ⟨_, _, _, _, _, _, _, _, _, _, _, rfl, _⟩ := c; rfl) | (obtain ⟨_, _, _, _, _, _, _, _, _, _, _, _, rfl, _⟩ := c; rfl) | (obtain ⟨_, _, _, _, _, _, _, _, _, _, _, _, _, rfl, _⟩ := c; rfl) | (obtain ⟨_, rfl⟩ := c; rfl) | (obtain ⟨_, _, rfl⟩ := c; rfl) | (obtain ⟨_, _, _, rfl⟩ := c; rfl) | (obtain ⟨_, _, _, _, rfl⟩ := c; rfl) | (obtain ⟨_, _, _, _, _, rfl⟩ := c; rfl) | (obtain ⟨_, _, _, _, _, _, rfl⟩ := c; rfl) | (obtain ⟨_, _, _, _, _, _, _, rfl⟩ := c; rfl) | (obtain ⟨_, _, _, _, _, _, _, _, rfl⟩ := c; rfl) | (obtain ⟨_, _, _, _, _, _, _, _, _, rfl⟩ := c; rfl) | (obtain ⟨_, _, _, _, _, _, _, _, _, _, rfl⟩ := c; rfl) | (obtain ⟨_, _, _, _, _, _, _, _, _, _, _, rfl⟩ := c; rfl)) h) (fun hr => dv_whole_plan T (c_Plan___init__ T) (c_Update_network T) (c_Network_nodes T) hr) (bd_whole_plan T.tc)
theorem c_stamped (T : Tx K mg a b) : FC P w K mg base 1 b.stamped b.d_stamped ["doubles", "memory", "word", "node"] (@sp_stamped ⟨w⟩ K a) :=
  letI : Wld := ⟨w⟩; FC.ofT T.d_stamped sc_stamped (fun vs H Q E h => spF_len (fun ds P c => by unfold C_stamped at c; first | (obtain ⟨rfl, _⟩ := c; rfl) | (obtain ⟨_, rfl, _⟩ := c; rfl) | (obtain ⟨_, _, rfl, _⟩ := c; rfl) | (obtain ⟨_, _, _, rfl, _⟩ := c; rfl) | (obtain ⟨_, _, _, _, rfl, _⟩ := c; rfl) | (obtain ⟨_, _, _, _, _, rfl, _⟩ := c; rfl) | (obtain ⟨_, _, _, _, _, _, rfl, _⟩ := c; rfl) | (obtain ⟨_, _, _, _, _, _, _, rfl, _⟩ := c; rfl) | (obtain ⟨_, _, _, _, _, _, _, _, rfl, _⟩ := c; rfl) | (obtain ⟨_, _, _, _, _, _, _, _, _, rfl, _⟩ := c; rfl) | (obtain ⟨_, _, _, _, _, _, _, _, _, _, rfl, _⟩ := c; rfl) | (obtain ⟨_, _, _, _, _, _, _, _, _, _, _, rfl, _⟩ := c; rfl) | (obtain ⟨_, _, _, _, _, _, _, _, _, _, _, _, rfl, _⟩ := c; rfl) | (obtain ⟨_, _, _, _, _, _, _, _, _, _, _, _, _, rfl, _⟩ := c; rfl) | (obtain ⟨_, rfl⟩ := c; rfl) | (obtain ⟨_, _, rfl⟩ := c; rfl) | (obtain ⟨_, _, _, rfl⟩ := c; rfl) | (obtain ⟨_, _, _, _, rfl⟩ := c; rfl) | (obtain ⟨_, _, _, _, _, rfl⟩ := c; rfl) | (obtain ⟨_, _, _, _, _, _, rfl⟩ := c; rfl) | (obtain ⟨_, _, _, _, _, _, _, rfl⟩ := c; rfl) | (obtain ⟨_, _, _, _, _, _, _, _, rfl⟩ := c; rfl) | (obtain ⟨_, _, _, _, _, _, _, _, _, rfl⟩ := c; rfl) | (obtain ⟨_, _, _, _, _, _, _, _, _, _, rfl⟩ := c; rfl) | (obtain ⟨_, _, _, _, _, _, _, _, _, _, _, rfl⟩ := c; rfl)) h) (fun hr => dv_stamped T hr) (bd_stamped T.tc)
theorem c_memory_behind (T : Tx K mg a b) : FC P w K mg base 8 b.memory_behind b.d_memory_behind ["update", "flow", "doubles", "walk"] (@sp_memory_behind ⟨w⟩ K a) :=
  letI : Wld := ⟨w⟩; FC.ofT T.d_memory_behind sc_memory_behind (fun vs H Q E h => spF_len (fun ds P c => by unfold C_memory_behind at c; first | (obtain ⟨rfl, _⟩ := c; rfl) | (obtain ⟨_, rfl, _⟩ := c; rfl) | (obtain ⟨_, _, rfl, _⟩ := c; rfl) | (obtain ⟨_, _, _, rfl, _⟩ := c; rfl) | (obtain ⟨_, _, _, _, rfl, _⟩ := c; rfl) | (obtain ⟨_, _, _, _, _, rfl, _⟩ := c; rfl) | (obtain ⟨_, _, _, _, _, _, rfl, _⟩ := c; rfl) | (obtain ⟨_, _, _, _, _, _, _, rfl, _⟩ := c; rfl) | (obtain ⟨_, _, _, _, _, _, _, _, rfl, _⟩ := c; rfl) | (obtain ⟨_, _, _, _, _, _, _, _, _, rfl, _⟩ := c; rfl) | (obtain ⟨_, _, _, _, _, _, _, _, _, _, rfl, _⟩ := c; rfl) | (obtain ⟨_, _, _, _, _, _, _, _, _, _, _, rfl, _⟩ := c; rfl) | (obtain ⟨_, _, _, _, _, _, _, _, _, _, _, _, rfl, _⟩ := c; rfl) | (obtain ⟨_, _, _, _, _, _, _, _, _, _, _, _, _, rfl, _⟩ := c; rfl) | (obtain ⟨_, rfl⟩ := c; rfl) | (obtain ⟨_, _, rfl⟩ := c; rfl) | (obtain ⟨_, _, _, rfl⟩ := c; rfl) | (obtain ⟨_, _, _, _, rfl⟩ := c; rfl) | (obtain ⟨_, _, _, _, _, rfl⟩ := c; rfl) | (obtain ⟨_, _, _, _, _, _, rfl⟩ := c; rfl) | (obtain ⟨_, _, _, _, _, _, _, rfl⟩ := c; rfl) | (obtain ⟨_, _, _, _, _, _, _, _, rfl⟩ := c; rfl) | (obtain ⟨_, _, _, _, _, _, _, _, _, rfl⟩ := c; rfl) | (obtain ⟨_, _, _, _, _, _, _, _, _, _, rfl⟩ := c; rfl) | (obtain ⟨_, _, _, _, _, _, _, _, _, _, _, rfl⟩ := c; rfl)) h) (fun hr => dv_memory_behind T (c_seen_words T) (c_whole_plan T) (c_stamped T) hr) (bd_memory_behind T.tc)
theorem c_is_possible_with (T : Tx K mg a b) : FC P w K mg base 9 b.is_possible_with b.d_is_possible_with ["update", "flow", "doubles", "walk"] (@sp_is_possible_with ⟨w⟩ K a) :=
  letI : Wld := ⟨w⟩; FC.ofT T.d_is_possible_with sc_is_possible_with (fun vs H Q E h => spF_len (fun ds P c => by unfold C_is_possible_with at c; first | (obtain ⟨rfl, _⟩ := c; rfl) | (obtain ⟨_, rfl, _⟩ := c; rfl) | (obtain ⟨_, _, rfl, _⟩ := c; rfl) | (obtain ⟨_, _, _, rfl, _⟩ := c; rfl) | (obtain ⟨_, _, _, _, rfl, _⟩ := c; rfl) | (obtain ⟨_, _, _, _, _, rfl, _⟩ := c; rfl) | (obtain ⟨_, _, _, _, _, _, rfl, _⟩ := c; rfl) | (obtain ⟨_, _, _, _, _, _, _, rfl, _⟩ := c; rfl) | (obtain ⟨_, _, _, _, _, _, _, _, rfl, _⟩ := c; rfl) | (obtain ⟨_, _, _, _, _, _, _, _, _, rfl, _⟩ := c; rfl) | (obtain ⟨_, _, _, _, _, _, _, _, _, _, rfl, _⟩ := c; rfl) | (obtain ⟨_, _, _, _, _, _, _, _, _, _, _, rfl, _⟩ := c; rfl) | (obtain ⟨_, _, _, _, _, _, _, _, _, _, _, _, rfl, _⟩ := c; rfl) | (obtain ⟨_, _, _, _, _, _, _, _, _, _, _, _, _, rfl, _⟩ := c; rfl) | (obtain ⟨_, rfl⟩ := c; rfl) | (obtain ⟨_, _, rfl⟩ := c; rfl) | (obtain ⟨_, _, _, rfl⟩ := c; rfl) | (obtain ⟨_, _, _, _, rfl⟩ := c; rfl) | (obtain ⟨_, _, _, _, _, rfl⟩ := c; rfl) | (obtain ⟨_, _, _, _, _, _, rfl⟩ := c; rfl) | (obtain ⟨_, _, _, _, _, _, _, rfl⟩ := c; rfl) | (obtain ⟨_, _, _, _, _, _, _, _, rfl⟩ := c; rfl) | (obtain ⟨_, _, _, _, _, _, _, _, _, rfl⟩ := c; rfl) | (obtain ⟨_, _, _, _, _, _, _, _, _, _, rfl⟩ := c; rfl) | (obtain ⟨_, _, _, _, _, _, _, _, _, _, _, rfl⟩ := c; rfl)) h) (fun hr => dv_is_possible_with T (c_need_all T) (c_memory_behind T) hr) (bd_is_possible_with T.tc)
theorem c_law (T : Tx K mg a b) : FCG P w K mg base 10 b.law b.d_law ["script"] (@sp_law ⟨w⟩ K a) :=
  letI : Wld := ⟨w⟩; FCG.ofT T.d_law sc_law (fun vs H Q E h => by obtain ⟨p, ns, rfl, _⟩ := h; rfl) (fun hg hr => dv_law T (c__law_begin T) (c__law_shape T) (c__law_pick T) (c__law_update T) (c__law_all_shown T) (c__law_mixed T) (c__law_bent_walk T) (c__law_any_walk T) (c_is_possible_with T) hg hr) (bd_law T.tc)
end
end DL
set_option Elab.async false
set_option linter.all false
set_option maxRecDepth 100000
set_option maxHeartbeats 4000000
namespace DL
open PySem L2
theorem df_mk {K : PySem.W.Frag} {x qual : Str} {st : Stmt} {f : Addr} {oc : Value} {od an : Option Addr} {osl : Array (Option Value)} {kV doc pm cdv ct : Value} {ps : List Str} (l : K.lookup f = some ⟨oc, od, .func (PySem.W.fnOf x qual (defArgs st) (defBody st) (defScope st) .none kV doc pm an cdv ct), osl⟩)
    (c : PySem.W.codeIn K cdv qual = true) (k : PySem.W.keepIn K (.ref f) = true) (h : ∀ (kV doc pm : Value) (an : Option Addr) (cdv ct : Value) (us : List Value), us.length = ps.length → bindArgs (PySem.W.fnOf x qual (defArgs st) (defBody st) (defScope st) .none kV doc pm an cdv ct) ⟨us, []⟩ = pure (ps.zip us)) : Df K x qual st f (PySem.W.fnOf x qual (defArgs st) (defBody st) (defScope st) .none kV doc pm an cdv ct) ps :=
  ⟨fun_mk l c k, (fun_mk l c k).binds h⟩
theorem kbn_of [Wld] {K : PySem.W.Frag} {x qual : Str} {st : Stmt} {f : Addr} {fd : FuncData} {ps ks : List Str} {ix : List Nat} (F : Fun K x qual st f fd) (h : ∀ (kV doc pm : Value) (an : Option Addr) (cdv ct : Value) (ws : List Value), ws.length = ks.length → bindArgs (PySem.W.fnOf x qual (defArgs st) (defBody st) (defScope st) .none kV doc pm an cdv ct) ⟨[], ks.zip ws⟩ = pure (ps.zip (pmW ix [] ws))) : KBn K fd ps 0 ks (pmW ix) (pmV ix) := by
  obtain ⟨oc, od, kV, doc, pm, an, cdv, ct, osl, rfl, lk, hcd⟩ := F.ex
  refine ⟨fun s us ws _ l1 l2 => ?_, fun r1 r2 => pm_rel r1 r2⟩
  cases us with
  | nil => exact .of_eq (h kV doc pm an cdv ct ws l2)
  | cons u us => cases l1
set_option maxHeartbeats 0 in
theorem all_mk {P : Program} {w : World} {K : PySem.W.Frag} {mg : Str → Option Value} {h : Heap} {fa : Addr} (X : K.In h) (G : h.Ns mainGlobals mg) (hfa : mg "law" = some (.ref fa))
    {A_Network : Addr}
    {A_Table : Addr}
    {A_Plan : Addr}
    {A_Update : Addr}
    {F__law_begin : Addr} {oc__law_begin kV__law_begin dc__law_begin pm__law_begin cd__law_begin ct__law_begin : Value} {od__law_begin an__law_begin : Option Addr} {sl__law_begin : Array (Option Value)}
    {F__law_draw : Addr} {oc__law_draw kV__law_draw dc__law_draw pm__law_draw cd__law_draw ct__law_draw : Value} {od__law_draw an__law_draw : Option Addr} {sl__law_draw : Array (Option Value)}
    {F__law_pick : Addr} {oc__law_pick kV__law_pick dc__law_pick pm__law_pick cd__law_pick ct__law_pick : Value} {od__law_pick an__law_pick : Option Addr} {sl__law_pick : Array (Option Value)}
    {F__law_names : Addr} {oc__law_names kV__law_names dc__law_names pm__law_names cd__law_names ct__law_names : Value} {od__law_names an__law_names : Option Addr} {sl__law_names : Array (Option Value)}
    {F__law_mixed : Addr} {oc__law_mixed kV__law_mixed dc__law_mixed pm__law_mixed cd__law_mixed ct__law_mixed : Value} {od__law_mixed an__law_mixed : Option Addr} {sl__law_mixed : Array (Option Value)}
    {F__law_hop : Addr} {oc__law_hop kV__law_hop dc__law_hop pm__law_hop cd__law_hop ct__law_hop : Value} {od__law_hop an__law_hop : Option Addr} {sl__law_hop : Array (Option Value)}
    {F__law_flow : Addr} {oc__law_flow kV__law_flow dc__law_flow pm__law_flow cd__law_flow ct__law_flow : Value} {od__law_flow an__law_flow : Option Addr} {sl__law_flow : Array (Option Value)}
    {F__law_model : Addr} {oc__law_model kV__law_model dc__law_model pm__law_model cd__law_model ct__law_model : Value} {od__law_model an__law_model : Option Addr} {sl__law_model : Array (Option Value)}
    {F__law_shape : Addr} {oc__law_shape kV__law_shape dc__law_shape pm__law_shape cd__law_shape ct__law_shape : Value} {od__law_shape an__law_shape : Option Addr} {sl__law_shape : Array (Option Value)}
    {F_is_name : Addr} {oc_is_name kV_is_name dc_is_name pm_is_name cd_is_name ct_is_name : Value} {od_is_name an_is_name : Option Addr} {sl_is_name : Array (Option Value)}
    {F_Network___init__ : Addr} {oc_Network___init__ kV_Network___init__ dc_Network___init__ pm_Network___init__ cd_Network___init__ ct_Network___init__ : Value} {od_Network___init__ an_Network___init__ : Option Addr} {sl_Network___init__ : Array (Option Value)}
    {F_Network_nodes : Addr} {oc_Network_nodes kV_Network_nodes dc_Network_nodes pm_Network_nodes cd_Network_nodes ct_Network_nodes : Value} {od_Network_nodes an_Network_nodes : Option Addr} {sl_Network_nodes : Array (Option Value)}
    {p_Network_nodes : Addr} {rs_Network_nodes : List Value}
    {F_is_node : Addr} {oc_is_node kV_is_node dc_is_node pm_is_node cd_is_node ct_is_node : Value} {od_is_node an_is_node : Option Addr} {sl_is_node : Array (Option Value)}
    {F_Network_exits : Addr} {oc_Network_exits kV_Network_exits dc_Network_exits pm_Network_exits cd_Network_exits ct_Network_exits : Value} {od_Network_exits an_Network_exits : Option Addr} {sl_Network_exits : Array (Option Value)}
    {p_Network_exits : Addr} {rs_Network_exits : List Value}
    {F_is_exit : Addr} {oc_is_exit kV_is_exit dc_is_exit pm_is_exit cd_is_exit ct_is_exit : Value} {od_is_exit an_is_exit : Option Addr} {sl_is_exit : Array (Option Value)}
    {F_is_hop : Addr} {oc_is_hop kV_is_hop dc_is_hop pm_is_hop cd_is_hop ct_is_hop : Value} {od_is_hop an_is_hop : Option Addr} {sl_is_hop : Array (Option Value)}
    {F_Table___init__ : Addr} {oc_Table___init__ kV_Table___init__ dc_Table___init__ pm_Table___init__ cd_Table___init__ ct_Table___init__ : Value} {od_Table___init__ an_Table___init__ : Option Addr} {sl_Table___init__ : Array (Option Value)}
    {F_Table_network : Addr} {oc_Table_network kV_Table_network dc_Table_network pm_Table_network cd_Table_network ct_Table_network : Value} {od_Table_network an_Table_network : Option Addr} {sl_Table_network : Array (Option Value)}
    {p_Table_network : Addr} {rs_Table_network : List Value}
    {F_Network___eq__ : Addr} {oc_Network___eq__ kV_Network___eq__ dc_Network___eq__ pm_Network___eq__ cd_Network___eq__ ct_Network___eq__ : Value} {od_Network___eq__ an_Network___eq__ : Option Addr} {sl_Network___eq__ : Array (Option Value)}
    {F_need_flows : Addr} {oc_need_flows kV_need_flows dc_need_flows pm_need_flows cd_need_flows ct_need_flows : Value} {od_need_flows an_need_flows : Option Addr} {sl_need_flows : Array (Option Value)}
    {F_Update___init__ : Addr} {oc_Update___init__ kV_Update___init__ dc_Update___init__ pm_Update___init__ cd_Update___init__ ct_Update___init__ : Value} {od_Update___init__ an_Update___init__ : Option Addr} {sl_Update___init__ : Array (Option Value)}
    {F__law_update : Addr} {oc__law_update kV__law_update dc__law_update pm__law_update cd__law_update ct__law_update : Value} {od__law_update an__law_update : Option Addr} {sl__law_update : Array (Option Value)}
    {F__law_grown : Addr} {oc__law_grown kV__law_grown dc__law_grown pm__law_grown cd__law_grown ct__law_grown : Value} {od__law_grown an__law_grown : Option Addr} {sl__law_grown : Array (Option Value)}
    {F__law_read : Addr} {oc__law_read kV__law_read dc__law_read pm__law_read cd__law_read ct__law_read : Value} {od__law_read an__law_read : Option Addr} {sl__law_read : Array (Option Value)}
    {F__law_all_shown : Addr} {oc__law_all_shown kV__law_all_shown dc__law_all_shown pm__law_all_shown cd__law_all_shown ct__law_all_shown : Value} {od__law_all_shown an__law_all_shown : Option Addr} {sl__law_all_shown : Array (Option Value)}
    {F__law_bent_walk : Addr} {oc__law_bent_walk kV__law_bent_walk dc__law_bent_walk pm__law_bent_walk cd__law_bent_walk ct__law_bent_walk : Value} {od__law_bent_walk an__law_bent_walk : Option Addr} {sl__law_bent_walk : Array (Option Value)}
    {F__law_any_walk : Addr} {oc__law_any_walk kV__law_any_walk dc__law_any_walk pm__law_any_walk cd__law_any_walk ct__law_any_walk : Value} {od__law_any_walk an__law_any_walk : Option Addr} {sl__law_any_walk : Array (Option Value)}
    {F_Update_flows : Addr} {oc_Update_flows kV_Update_flows dc_Update_flows pm_Update_flows cd_Update_flows ct_Update_flows : Value} {od_Update_flows an_Update_flows : Option Addr} {sl_Update_flows : Array (Option Value)}
    {p_Update_flows : Addr} {rs_Update_flows : List Value}
    {F_need_flow : Addr} {oc_need_flow kV_need_flow dc_need_flow pm_need_flow cd_need_flow ct_need_flow : Value} {od_need_flow an_need_flow : Option Addr} {sl_need_flow : Array (Option Value)}
    {F_Update_network : Addr} {oc_Update_network kV_Update_network dc_Update_network pm_Update_network cd_Update_network ct_Update_network : Value} {od_Update_network an_Update_network : Option Addr} {sl_Update_network : Array (Option Value)}
    {p_Update_network : Addr} {rs_Update_network : List Value}
    {F_need_doubles : Addr} {oc_need_doubles kV_need_doubles dc_need_doubles pm_need_doubles cd_need_doubles ct_need_doubles : Value} {od_need_doubles an_need_doubles : Option Addr} {sl_need_doubles : Array (Option Value)}
    {F_is_walk : Addr} {oc_is_walk kV_is_walk dc_is_walk pm_is_walk cd_is_walk ct_is_walk : Value} {od_is_walk an_is_walk : Option Addr} {sl_is_walk : Array (Option Value)}
    {F_need_walk : Addr} {oc_need_walk kV_need_walk dc_need_walk pm_need_walk cd_need_walk ct_need_walk : Value} {od_need_walk an_need_walk : Option Addr} {sl_need_walk : Array (Option Value)}
    {F_need_all : Addr} {oc_need_all kV_need_all dc_need_all pm_need_all cd_need_all ct_need_all : Value} {od_need_all an_need_all : Option Addr} {sl_need_all : Array (Option Value)}
    {F_Update_old : Addr} {oc_Update_old kV_Update_old dc_Update_old pm_Update_old cd_Update_old ct_Update_old : Value} {od_Update_old an_Update_old : Option Addr} {sl_Update_old : Array (Option Value)}
    {F_Table___getitem__ : Addr} {oc_Table___getitem__ kV_Table___getitem__ dc_Table___getitem__ pm_Table___getitem__ cd_Table___getitem__ ct_Table___getitem__ : Value} {od_Table___getitem__ an_Table___getitem__ : Option Addr} {sl_Table___getitem__ : Array (Option Value)}
    {F_Plan_step_of : Addr} {oc_Plan_step_of kV_Plan_step_of dc_Plan_step_of pm_Plan_step_of cd_Plan_step_of ct_Plan_step_of : Value} {od_Plan_step_of an_Plan_step_of : Option Addr} {sl_Plan_step_of : Array (Option Value)}
    {F_Update_new : Addr} {oc_Update_new kV_Update_new dc_Update_new pm_Update_new cd_Update_new ct_Update_new : Value} {od_Update_new an_Update_new : Option Addr} {sl_Update_new : Array (Option Value)}
    {F_word_of : Addr} {oc_word_of kV_word_of dc_word_of pm_word_of cd_word_of ct_word_of : Value} {od_word_of an_word_of : Option Addr} {sl_word_of : Array (Option Value)}
    {F_seen_words : Addr} {oc_seen_words kV_seen_words dc_seen_words pm_seen_words cd_seen_words ct_seen_words : Value} {od_seen_words an_seen_words : Option Addr} {sl_seen_words : Array (Option Value)}
    {F_need_steps : Addr} {oc_need_steps kV_need_steps dc_need_steps pm_need_steps cd_need_steps ct_need_steps : Value} {od_need_steps an_need_steps : Option Addr} {sl_need_steps : Array (Option Value)}
    {F_need_waits : Addr} {oc_need_waits kV_need_waits dc_need_waits pm_need_waits cd_need_waits ct_need_waits : Value} {od_need_waits an_need_waits : Option Addr} {sl_need_waits : Array (Option Value)}
    {F_Plan___init__ : Addr} {oc_Plan___init__ dc_Plan___init__ pm_Plan___init__ cd_Plan___init__ ct_Plan___init__ : Value} {od_Plan___init__ an_Plan___init__ : Option Addr} {sl_Plan___init__ : Array (Option Value)}
    {D_kw : Addr}
    {F_whole_plan : Addr} {oc_whole_plan kV_whole_plan dc_whole_plan pm_whole_plan cd_whole_plan ct_whole_plan : Value} {od_whole_plan an_whole_plan : Option Addr} {sl_whole_plan : Array (Option Value)}
    {F_stamped : Addr} {oc_stamped kV_stamped dc_stamped pm_stamped cd_stamped ct_stamped : Value} {od_stamped an_stamped : Option Addr} {sl_stamped : Array (Option Value)}
    {F_memory_behind : Addr} {oc_memory_behind kV_memory_behind dc_memory_behind pm_memory_behind cd_memory_behind ct_memory_behind : Value} {od_memory_behind an_memory_behind : Option Addr} {sl_memory_behind : Array (Option Value)}
    {F_is_possible_with : Addr} {oc_is_possible_with kV_is_possible_with dc_is_possible_with pm_is_possible_with cd_is_possible_with ct_is_possible_with : Value} {od_is_possible_with an_is_possible_with : Option Addr} {sl_is_possible_with : Array (Option Value)}
    {F_law : Addr} {oc_law kV_law dc_law pm_law cd_law ct_law : Value} {od_law an_law : Option Addr} {sl_law : Array (Option Value)}
    {t_LETTERS : Nat}
    {t_MOST_EXITS : Nat}
    {t_MOST_FLOWS : Nat}
    {t_MOST_ITEMS : Nat}
    {t_MOST_NODES : Nat}
    {t_MOST_SIGNS : Nat}
    {A_nw : Addr} {d_nw : Option Addr} {n_nw : Nat} {s_nw : Array (Option Value)}
    (x_Network : PySem.W.nsIn K mainGlobals "Network" = some (some (.ref A_Network)))
    (pg_Network : PySem.W.plainGet K A_Network Str.empty = true)
    (hd_Network : PySem.W.hasDictIn K A_Network = true)
    (po_Network : PySem.W.plainOver K A_Network = true)
    (sa_Network : PySem.W.findIn K (.ref A_Network) "__setattr__" = some (some (.builtin "object.__setattr__")))
    (mk_Network : PySem.W.makesIn K A_Network = true)
    (kc_Network : PySem.W.keepIn K (.ref A_Network) = true)
    (x_Table : PySem.W.nsIn K mainGlobals "Table" = some (some (.ref A_Table)))
    (pg_Table : PySem.W.plainGet K A_Table Str.empty = true)
    (hd_Table : PySem.W.hasDictIn K A_Table = true)
    (po_Table : PySem.W.plainOver K A_Table = true)
    (sa_Table : PySem.W.findIn K (.ref A_Table) "__setattr__" = some (some (.builtin "object.__setattr__")))
    (mk_Table : PySem.W.makesIn K A_Table = true)
    (kc_Table : PySem.W.keepIn K (.ref A_Table) = true)
    (x_Plan : PySem.W.nsIn K mainGlobals "Plan" = some (some (.ref A_Plan)))
    (pg_Plan : PySem.W.plainGet K A_Plan Str.empty = true)
    (hd_Plan : PySem.W.hasDictIn K A_Plan = true)
    (po_Plan : PySem.W.plainOver K A_Plan = true)
    (sa_Plan : PySem.W.findIn K (.ref A_Plan) "__setattr__" = some (some (.builtin "object.__setattr__")))
    (mk_Plan : PySem.W.makesIn K A_Plan = true)
    (kc_Plan : PySem.W.keepIn K (.ref A_Plan) = true)
    (x_Update : PySem.W.nsIn K mainGlobals "Update" = some (some (.ref A_Update)))
    (pg_Update : PySem.W.plainGet K A_Update Str.empty = true)
    (hd_Update : PySem.W.hasDictIn K A_Update = true)
    (po_Update : PySem.W.plainOver K A_Update = true)
    (sa_Update : PySem.W.findIn K (.ref A_Update) "__setattr__" = some (some (.builtin "object.__setattr__")))
    (mk_Update : PySem.W.makesIn K A_Update = true)
    (kc_Update : PySem.W.keepIn K (.ref A_Update) = true)
    (ha_Network : PySem.W.findIn K (.ref A_Network) "__class__" = some (some (.builtin "object.__class__")))
    (hm_Network : PySem.W.mroIn K A_Network (.type "object") = some true)
    (ha_Table : PySem.W.findIn K (.ref A_Table) "__class__" = some (some (.builtin "object.__class__")))
    (hm_Table : PySem.W.mroIn K A_Table (.type "object") = some true)
    (hn_ : PySem.W.specialIn K (.builtin "object.__class__") "__get__" = some (some (.builtin "getset_descriptor.__get__")))
    (htk_ : PySem.W.takesIn K (.builtin "object.__class__") = some true)
    (na_Network_own_nodes : PySem.W.findIn K (.ref A_Network) "own_nodes" = some none)
    (na_Network_own_exits : PySem.W.findIn K (.ref A_Network) "own_exits" = some none)
    (na_Table_own_network : PySem.W.findIn K (.ref A_Table) "own_network" = some none)
    (na_Table_hops : PySem.W.findIn K (.ref A_Table) "hops" = some none)
    (na_Plan_rows : PySem.W.findIn K (.ref A_Plan) "rows" = some none)
    (na_Plan_pauses : PySem.W.findIn K (.ref A_Plan) "pauses" = some none)
    (na_Plan_numbers : PySem.W.findIn K (.ref A_Plan) "numbers" = some none)
    (na_Update_own_network : PySem.W.findIn K (.ref A_Update) "own_network" = some none)
    (na_Update_pairs : PySem.W.findIn K (.ref A_Update) "pairs" = some none)
    (a__law_begin : PySem.W.nsIn K mainGlobals "_law_begin" = some (some (.ref F__law_begin)))
    (l__law_begin : K.lookup F__law_begin = some ⟨oc__law_begin, od__law_begin, .func (PySem.W.fnOf "_law_begin" "_law_begin" (defArgs s__law_begin) (defBody s__law_begin) (defScope s__law_begin) .none kV__law_begin dc__law_begin pm__law_begin an__law_begin cd__law_begin ct__law_begin), sl__law_begin⟩)
    (c__law_begin : PySem.W.codeIn K cd__law_begin "_law_begin" = true)
    (k__law_begin : PySem.W.keepIn K (.ref F__law_begin) = true)
    (a__law_draw : PySem.W.nsIn K mainGlobals "_law_draw" = some (some (.ref F__law_draw)))
    (l__law_draw : K.lookup F__law_draw = some ⟨oc__law_draw, od__law_draw, .func (PySem.W.fnOf "_law_draw" "_law_draw" (defArgs s__law_draw) (defBody s__law_draw) (defScope s__law_draw) .none kV__law_draw dc__law_draw pm__law_draw an__law_draw cd__law_draw ct__law_draw), sl__law_draw⟩)
    (c__law_draw : PySem.W.codeIn K cd__law_draw "_law_draw" = true)
    (k__law_draw : PySem.W.keepIn K (.ref F__law_draw) = true)
    (a__law_pick : PySem.W.nsIn K mainGlobals "_law_pick" = some (some (.ref F__law_pick)))
    (l__law_pick : K.lookup F__law_pick = some ⟨oc__law_pick, od__law_pick, .func (PySem.W.fnOf "_law_pick" "_law_pick" (defArgs s__law_pick) (defBody s__law_pick) (defScope s__law_pick) .none kV__law_pick dc__law_pick pm__law_pick an__law_pick cd__law_pick ct__law_pick), sl__law_pick⟩)
    (c__law_pick : PySem.W.codeIn K cd__law_pick "_law_pick" = true)
    (k__law_pick : PySem.W.keepIn K (.ref F__law_pick) = true)
    (a__law_names : PySem.W.nsIn K mainGlobals "_law_names" = some (some (.ref F__law_names)))
    (l__law_names : K.lookup F__law_names = some ⟨oc__law_names, od__law_names, .func (PySem.W.fnOf "_law_names" "_law_names" (defArgs s__law_names) (defBody s__law_names) (defScope s__law_names) .none kV__law_names dc__law_names pm__law_names an__law_names cd__law_names ct__law_names), sl__law_names⟩)
    (c__law_names : PySem.W.codeIn K cd__law_names "_law_names" = true)
    (k__law_names : PySem.W.keepIn K (.ref F__law_names) = true)
    (a__law_mixed : PySem.W.nsIn K mainGlobals "_law_mixed" = some (some (.ref F__law_mixed)))
    (l__law_mixed : K.lookup F__law_mixed = some ⟨oc__law_mixed, od__law_mixed, .func (PySem.W.fnOf "_law_mixed" "_law_mixed" (defArgs s__law_mixed) (defBody s__law_mixed) (defScope s__law_mixed) .none kV__law_mixed dc__law_mixed pm__law_mixed an__law_mixed cd__law_mixed ct__law_mixed), sl__law_mixed⟩)
    (c__law_mixed : PySem.W.codeIn K cd__law_mixed "_law_mixed" = true)
    (k__law_mixed : PySem.W.keepIn K (.ref F__law_mixed) = true)
    (a__law_hop : PySem.W.nsIn K mainGlobals "_law_hop" = some (some (.ref F__law_hop)))
    (l__law_hop : K.lookup F__law_hop = some ⟨oc__law_hop, od__law_hop, .func (PySem.W.fnOf "_law_hop" "_law_hop" (defArgs s__law_hop) (defBody s__law_hop) (defScope s__law_hop) .none kV__law_hop dc__law_hop pm__law_hop an__law_hop cd__law_hop ct__law_hop), sl__law_hop⟩)
    (c__law_hop : PySem.W.codeIn K cd__law_hop "_law_hop" = true)
    (k__law_hop : PySem.W.keepIn K (.ref F__law_hop) = true)
    (a__law_flow : PySem.W.nsIn K mainGlobals "_law_flow" = some (some (.ref F__law_flow)))
    (l__law_flow : K.lookup F__law_flow = some ⟨oc__law_flow, od__law_flow, .func (PySem.W.fnOf "_law_flow" "_law_flow" (defArgs s__law_flow) (defBody s__law_flow) (defScope s__law_flow) .none kV__law_flow dc__law_flow pm__law_flow an__law_flow cd__law_flow ct__law_flow), sl__law_flow⟩)
    (c__law_flow : PySem.W.codeIn K cd__law_flow "_law_flow" = true)
    (k__law_flow : PySem.W.keepIn K (.ref F__law_flow) = true)
    (a__law_model : PySem.W.nsIn K mainGlobals "_law_model" = some (some (.ref F__law_model)))
    (l__law_model : K.lookup F__law_model = some ⟨oc__law_model, od__law_model, .func (PySem.W.fnOf "_law_model" "_law_model" (defArgs s__law_model) (defBody s__law_model) (defScope s__law_model) .none kV__law_model dc__law_model pm__law_model an__law_model cd__law_model ct__law_model), sl__law_model⟩)
    (c__law_model : PySem.W.codeIn K cd__law_model "_law_model" = true)
    (k__law_model : PySem.W.keepIn K (.ref F__law_model) = true)
    (a__law_shape : PySem.W.nsIn K mainGlobals "_law_shape" = some (some (.ref F__law_shape)))
    (l__law_shape : K.lookup F__law_shape = some ⟨oc__law_shape, od__law_shape, .func (PySem.W.fnOf "_law_shape" "_law_shape" (defArgs s__law_shape) (defBody s__law_shape) (defScope s__law_shape) .none kV__law_shape dc__law_shape pm__law_shape an__law_shape cd__law_shape ct__law_shape), sl__law_shape⟩)
    (c__law_shape : PySem.W.codeIn K cd__law_shape "_law_shape" = true)
    (k__law_shape : PySem.W.keepIn K (.ref F__law_shape) = true)
    (a_is_name : PySem.W.nsIn K mainGlobals "is_name" = some (some (.ref F_is_name)))
    (l_is_name : K.lookup F_is_name = some ⟨oc_is_name, od_is_name, .func (PySem.W.fnOf "is_name" "is_name" (defArgs s_is_name) (defBody s_is_name) (defScope s_is_name) .none kV_is_name dc_is_name pm_is_name an_is_name cd_is_name ct_is_name), sl_is_name⟩)
    (c_is_name : PySem.W.codeIn K cd_is_name "is_name" = true)
    (k_is_name : PySem.W.keepIn K (.ref F_is_name) = true)
    (a_Network___init__ : PySem.W.findIn K (.ref A_Network) "__init__" = some (some (.ref F_Network___init__)))
    (i_Network___init__ : PySem.W.isFn K (.ref F_Network___init__) = true)
    (l_Network___init__ : K.lookup F_Network___init__ = some ⟨oc_Network___init__, od_Network___init__, .func (PySem.W.fnOf "__init__" "Network.__init__" (defArgs s_Network___init__) (defBody s_Network___init__) (defScope s_Network___init__) .none kV_Network___init__ dc_Network___init__ pm_Network___init__ an_Network___init__ cd_Network___init__ ct_Network___init__), sl_Network___init__⟩)
    (c_Network___init__ : PySem.W.codeIn K cd_Network___init__ "Network.__init__" = true)
    (k_Network___init__ : PySem.W.keepIn K (.ref F_Network___init__) = true)
    (a_Network_nodes : PySem.W.findIn K (.ref A_Network) "nodes" = some (some (.ref p_Network_nodes)))
    (g_Network_nodes : PySem.W.specialIn K (.ref p_Network_nodes) "__get__" = some (some (.builtin "property.__get__")))
    (t_Network_nodes : PySem.W.takesIn K (.ref p_Network_nodes) = some true)
    (r_Network_nodes : PySem.W.recIn K p_Network_nodes "property" = some (.ref F_Network_nodes :: rs_Network_nodes))
    (l_Network_nodes : K.lookup F_Network_nodes = some ⟨oc_Network_nodes, od_Network_nodes, .func (PySem.W.fnOf "nodes" "Network.nodes" (defArgs s_Network_nodes) (defBody s_Network_nodes) (defScope s_Network_nodes) .none kV_Network_nodes dc_Network_nodes pm_Network_nodes an_Network_nodes cd_Network_nodes ct_Network_nodes), sl_Network_nodes⟩)
    (c_Network_nodes : PySem.W.codeIn K cd_Network_nodes "Network.nodes" = true)
    (k_Network_nodes : PySem.W.keepIn K (.ref F_Network_nodes) = true)
    (a_is_node : PySem.W.nsIn K mainGlobals "is_node" = some (some (.ref F_is_node)))
    (l_is_node : K.lookup F_is_node = some ⟨oc_is_node, od_is_node, .func (PySem.W.fnOf "is_node" "is_node" (defArgs s_is_node) (defBody s_is_node) (defScope s_is_node) .none kV_is_node dc_is_node pm_is_node an_is_node cd_is_node ct_is_node), sl_is_node⟩)
    (c_is_node : PySem.W.codeIn K cd_is_node "is_node" = true)
    (k_is_node : PySem.W.keepIn K (.ref F_is_node) = true)
    (a_Network_exits : PySem.W.findIn K (.ref A_Network) "exits" = some (some (.ref p_Network_exits)))
    (g_Network_exits : PySem.W.specialIn K (.ref p_Network_exits) "__get__" = some (some (.builtin "property.__get__")))
    (t_Network_exits : PySem.W.takesIn K (.ref p_Network_exits) = some true)
    (r_Network_exits : PySem.W.recIn K p_Network_exits "property" = some (.ref F_Network_exits :: rs_Network_exits))
    (l_Network_exits : K.lookup F_Network_exits = some ⟨oc_Network_exits, od_Network_exits, .func (PySem.W.fnOf "exits" "Network.exits" (defArgs s_Network_exits) (defBody s_Network_exits) (defScope s_Network_exits) .none kV_Network_exits dc_Network_exits pm_Network_exits an_Network_exits cd_Network_exits ct_Network_exits), sl_Network_exits⟩)
    (c_Network_exits : PySem.W.codeIn K cd_Network_exits "Network.exits" = true)
    (k_Network_exits : PySem.W.keepIn K (.ref F_Network_exits) = true)
    (a_is_exit : PySem.W.nsIn K mainGlobals "is_exit" = some (some (.ref F_is_exit)))
    (l_is_exit : K.lookup F_is_exit = some ⟨oc_is_exit, od_is_exit, .func (PySem.W.fnOf "is_exit" "is_exit" (defArgs s_is_exit) (defBody s_is_exit) (defScope s_is_exit) .none kV_is_exit dc_is_exit pm_is_exit an_is_exit cd_is_exit ct_is_exit), sl_is_exit⟩)
    (c_is_exit : PySem.W.codeIn K cd_is_exit "is_exit" = true)
    (k_is_exit : PySem.W.keepIn K (.ref F_is_exit) = true)
    (a_is_hop : PySem.W.nsIn K mainGlobals "is_hop" = some (some (.ref F_is_hop)))
    (l_is_hop : K.lookup F_is_hop = some ⟨oc_is_hop, od_is_hop, .func (PySem.W.fnOf "is_hop" "is_hop" (defArgs s_is_hop) (defBody s_is_hop) (defScope s_is_hop) .none kV_is_hop dc_is_hop pm_is_hop an_is_hop cd_is_hop ct_is_hop), sl_is_hop⟩)
    (c_is_hop : PySem.W.codeIn K cd_is_hop "is_hop" = true)
    (k_is_hop : PySem.W.keepIn K (.ref F_is_hop) = true)
    (a_Table___init__ : PySem.W.findIn K (.ref A_Table) "__init__" = some (some (.ref F_Table___init__)))
    (i_Table___init__ : PySem.W.isFn K (.ref F_Table___init__) = true)
    (l_Table___init__ : K.lookup F_Table___init__ = some ⟨oc_Table___init__, od_Table___init__, .func (PySem.W.fnOf "__init__" "Table.__init__" (defArgs s_Table___init__) (defBody s_Table___init__) (defScope s_Table___init__) .none kV_Table___init__ dc_Table___init__ pm_Table___init__ an_Table___init__ cd_Table___init__ ct_Table___init__), sl_Table___init__⟩)
    (c_Table___init__ : PySem.W.codeIn K cd_Table___init__ "Table.__init__" = true)
    (k_Table___init__ : PySem.W.keepIn K (.ref F_Table___init__) = true)
    (a_Table_network : PySem.W.findIn K (.ref A_Table) "network" = some (some (.ref p_Table_network)))
    (g_Table_network : PySem.W.specialIn K (.ref p_Table_network) "__get__" = some (some (.builtin "property.__get__")))
    (t_Table_network : PySem.W.takesIn K (.ref p_Table_network) = some true)
    (r_Table_network : PySem.W.recIn K p_Table_network "property" = some (.ref F_Table_network :: rs_Table_network))
    (l_Table_network : K.lookup F_Table_network = some ⟨oc_Table_network, od_Table_network, .func (PySem.W.fnOf "network" "Table.network" (defArgs s_Table_network) (defBody s_Table_network) (defScope s_Table_network) .none kV_Table_network dc_Table_network pm_Table_network an_Table_network cd_Table_network ct_Table_network), sl_Table_network⟩)
    (c_Table_network : PySem.W.codeIn K cd_Table_network "Table.network" = true)
    (k_Table_network : PySem.W.keepIn K (.ref F_Table_network) = true)
    (a_Network___eq__ : PySem.W.findIn K (.ref A_Network) "__eq__" = some (some (.ref F_Network___eq__)))
    (i_Network___eq__ : PySem.W.isFn K (.ref F_Network___eq__) = true)
    (l_Network___eq__ : K.lookup F_Network___eq__ = some ⟨oc_Network___eq__, od_Network___eq__, .func (PySem.W.fnOf "__eq__" "Network.__eq__" (defArgs s_Network___eq__) (defBody s_Network___eq__) (defScope s_Network___eq__) .none kV_Network___eq__ dc_Network___eq__ pm_Network___eq__ an_Network___eq__ cd_Network___eq__ ct_Network___eq__), sl_Network___eq__⟩)
    (c_Network___eq__ : PySem.W.codeIn K cd_Network___eq__ "Network.__eq__" = true)
    (k_Network___eq__ : PySem.W.keepIn K (.ref F_Network___eq__) = true)
    (a_need_flows : PySem.W.nsIn K mainGlobals "need_flows" = some (some (.ref F_need_flows)))
    (l_need_flows : K.lookup F_need_flows = some ⟨oc_need_flows, od_need_flows, .func (PySem.W.fnOf "need_flows" "need_flows" (defArgs s_need_flows) (defBody s_need_flows) (defScope s_need_flows) .none kV_need_flows dc_need_flows pm_need_flows an_need_flows cd_need_flows ct_need_flows), sl_need_flows⟩)
    (c_need_flows : PySem.W.codeIn K cd_need_flows "need_flows" = true)
    (k_need_flows : PySem.W.keepIn K (.ref F_need_flows) = true)
    (a_Update___init__ : PySem.W.findIn K (.ref A_Update) "__init__" = some (some (.ref F_Update___init__)))
    (i_Update___init__ : PySem.W.isFn K (.ref F_Update___init__) = true)
    (l_Update___init__ : K.lookup F_Update___init__ = some ⟨oc_Update___init__, od_Update___init__, .func (PySem.W.fnOf "__init__" "Update.__init__" (defArgs s_Update___init__) (defBody s_Update___init__) (defScope s_Update___init__) .none kV_Update___init__ dc_Update___init__ pm_Update___init__ an_Update___init__ cd_Update___init__ ct_Update___init__), sl_Update___init__⟩)
    (c_Update___init__ : PySem.W.codeIn K cd_Update___init__ "Update.__init__" = true)
    (k_Update___init__ : PySem.W.keepIn K (.ref F_Update___init__) = true)
    (a__law_update : PySem.W.nsIn K mainGlobals "_law_update" = some (some (.ref F__law_update)))
    (l__law_update : K.lookup F__law_update = some ⟨oc__law_update, od__law_update, .func (PySem.W.fnOf "_law_update" "_law_update" (defArgs s__law_update) (defBody s__law_update) (defScope s__law_update) .none kV__law_update dc__law_update pm__law_update an__law_update cd__law_update ct__law_update), sl__law_update⟩)
    (c__law_update : PySem.W.codeIn K cd__law_update "_law_update" = true)
    (k__law_update : PySem.W.keepIn K (.ref F__law_update) = true)
    (a__law_grown : PySem.W.nsIn K mainGlobals "_law_grown" = some (some (.ref F__law_grown)))
    (l__law_grown : K.lookup F__law_grown = some ⟨oc__law_grown, od__law_grown, .func (PySem.W.fnOf "_law_grown" "_law_grown" (defArgs s__law_grown) (defBody s__law_grown) (defScope s__law_grown) .none kV__law_grown dc__law_grown pm__law_grown an__law_grown cd__law_grown ct__law_grown), sl__law_grown⟩)
    (c__law_grown : PySem.W.codeIn K cd__law_grown "_law_grown" = true)
    (k__law_grown : PySem.W.keepIn K (.ref F__law_grown) = true)
    (a__law_read : PySem.W.nsIn K mainGlobals "_law_read" = some (some (.ref F__law_read)))
    (l__law_read : K.lookup F__law_read = some ⟨oc__law_read, od__law_read, .func (PySem.W.fnOf "_law_read" "_law_read" (defArgs s__law_read) (defBody s__law_read) (defScope s__law_read) .none kV__law_read dc__law_read pm__law_read an__law_read cd__law_read ct__law_read), sl__law_read⟩)
    (c__law_read : PySem.W.codeIn K cd__law_read "_law_read" = true)
    (k__law_read : PySem.W.keepIn K (.ref F__law_read) = true)
    (a__law_all_shown : PySem.W.nsIn K mainGlobals "_law_all_shown" = some (some (.ref F__law_all_shown)))
    (l__law_all_shown : K.lookup F__law_all_shown = some ⟨oc__law_all_shown, od__law_all_shown, .func (PySem.W.fnOf "_law_all_shown" "_law_all_shown" (defArgs s__law_all_shown) (defBody s__law_all_shown) (defScope s__law_all_shown) .none kV__law_all_shown dc__law_all_shown pm__law_all_shown an__law_all_shown cd__law_all_shown ct__law_all_shown), sl__law_all_shown⟩)
    (c__law_all_shown : PySem.W.codeIn K cd__law_all_shown "_law_all_shown" = true)
    (k__law_all_shown : PySem.W.keepIn K (.ref F__law_all_shown) = true)
    (a__law_bent_walk : PySem.W.nsIn K mainGlobals "_law_bent_walk" = some (some (.ref F__law_bent_walk)))
    (l__law_bent_walk : K.lookup F__law_bent_walk = some ⟨oc__law_bent_walk, od__law_bent_walk, .func (PySem.W.fnOf "_law_bent_walk" "_law_bent_walk" (defArgs s__law_bent_walk) (defBody s__law_bent_walk) (defScope s__law_bent_walk) .none kV__law_bent_walk dc__law_bent_walk pm__law_bent_walk an__law_bent_walk cd__law_bent_walk ct__law_bent_walk), sl__law_bent_walk⟩)
    (c__law_bent_walk : PySem.W.codeIn K cd__law_bent_walk "_law_bent_walk" = true)
    (k__law_bent_walk : PySem.W.keepIn K (.ref F__law_bent_walk) = true)
    (a__law_any_walk : PySem.W.nsIn K mainGlobals "_law_any_walk" = some (some (.ref F__law_any_walk)))
    (l__law_any_walk : K.lookup F__law_any_walk = some ⟨oc__law_any_walk, od__law_any_walk, .func (PySem.W.fnOf "_law_any_walk" "_law_any_walk" (defArgs s__law_any_walk) (defBody s__law_any_walk) (defScope s__law_any_walk) .none kV__law_any_walk dc__law_any_walk pm__law_any_walk an__law_any_walk cd__law_any_walk ct__law_any_walk), sl__law_any_walk⟩)
    (c__law_any_walk : PySem.W.codeIn K cd__law_any_walk "_law_any_walk" = true)
    (k__law_any_walk : PySem.W.keepIn K (.ref F__law_any_walk) = true)
    (a_Update_flows : PySem.W.findIn K (.ref A_Update) "flows" = some (some (.ref p_Update_flows)))
    (g_Update_flows : PySem.W.specialIn K (.ref p_Update_flows) "__get__" = some (some (.builtin "property.__get__")))
    (t_Update_flows : PySem.W.takesIn K (.ref p_Update_flows) = some true)
    (r_Update_flows : PySem.W.recIn K p_Update_flows "property" = some (.ref F_Update_flows :: rs_Update_flows))
    (l_Update_flows : K.lookup F_Update_flows = some ⟨oc_Update_flows, od_Update_flows, .func (PySem.W.fnOf "flows" "Update.flows" (defArgs s_Update_flows) (defBody s_Update_flows) (defScope s_Update_flows) .none kV_Update_flows dc_Update_flows pm_Update_flows an_Update_flows cd_Update_flows ct_Update_flows), sl_Update_flows⟩)
    (c_Update_flows : PySem.W.codeIn K cd_Update_flows "Update.flows" = true)
    (k_Update_flows : PySem.W.keepIn K (.ref F_Update_flows) = true)
    (a_need_flow : PySem.W.nsIn K mainGlobals "need_flow" = some (some (.ref F_need_flow)))
    (l_need_flow : K.lookup F_need_flow = some ⟨oc_need_flow, od_need_flow, .func (PySem.W.fnOf "need_flow" "need_flow" (defArgs s_need_flow) (defBody s_need_flow) (defScope s_need_flow) .none kV_need_flow dc_need_flow pm_need_flow an_need_flow cd_need_flow ct_need_flow), sl_need_flow⟩)
    (c_need_flow : PySem.W.codeIn K cd_need_flow "need_flow" = true)
    (k_need_flow : PySem.W.keepIn K (.ref F_need_flow) = true)
    (a_Update_network : PySem.W.findIn K (.ref A_Update) "network" = some (some (.ref p_Update_network)))
    (g_Update_network : PySem.W.specialIn K (.ref p_Update_network) "__get__" = some (some (.builtin "property.__get__")))
    (t_Update_network : PySem.W.takesIn K (.ref p_Update_network) = some true)
    (r_Update_network : PySem.W.recIn K p_Update_network "property" = some (.ref F_Update_network :: rs_Update_network))
    (l_Update_network : K.lookup F_Update_network = some ⟨oc_Update_network, od_Update_network, .func (PySem.W.fnOf "network" "Update.network" (defArgs s_Update_network) (defBody s_Update_network) (defScope s_Update_network) .none kV_Update_network dc_Update_network pm_Update_network an_Update_network cd_Update_network ct_Update_network), sl_Update_network⟩)
    (c_Update_network : PySem.W.codeIn K cd_Update_network "Update.network" = true)
    (k_Update_network : PySem.W.keepIn K (.ref F_Update_network) = true)
    (a_need_doubles : PySem.W.nsIn K mainGlobals "need_doubles" = some (some (.ref F_need_doubles)))
    (l_need_doubles : K.lookup F_need_doubles = some ⟨oc_need_doubles, od_need_doubles, .func (PySem.W.fnOf "need_doubles" "need_doubles" (defArgs s_need_doubles) (defBody s_need_doubles) (defScope s_need_doubles) .none kV_need_doubles dc_need_doubles pm_need_doubles an_need_doubles cd_need_doubles ct_need_doubles), sl_need_doubles⟩)
    (c_need_doubles : PySem.W.codeIn K cd_need_doubles "need_doubles" = true)
    (k_need_doubles : PySem.W.keepIn K (.ref F_need_doubles) = true)
    (a_is_walk : PySem.W.nsIn K mainGlobals "is_walk" = some (some (.ref F_is_walk)))
    (l_is_walk : K.lookup F_is_walk = some ⟨oc_is_walk, od_is_walk, .func (PySem.W.fnOf "is_walk" "is_walk" (defArgs s_is_walk) (defBody s_is_walk) (defScope s_is_walk) .none kV_is_walk dc_is_walk pm_is_walk an_is_walk cd_is_walk ct_is_walk), sl_is_walk⟩)
    (c_is_walk : PySem.W.codeIn K cd_is_walk "is_walk" = true)
    (k_is_walk : PySem.W.keepIn K (.ref F_is_walk) = true)
    (a_need_walk : PySem.W.nsIn K mainGlobals "need_walk" = some (some (.ref F_need_walk)))
    (l_need_walk : K.lookup F_need_walk = some ⟨oc_need_walk, od_need_walk, .func (PySem.W.fnOf "need_walk" "need_walk" (defArgs s_need_walk) (defBody s_need_walk) (defScope s_need_walk) .none kV_need_walk dc_need_walk pm_need_walk an_need_walk cd_need_walk ct_need_walk), sl_need_walk⟩)
    (c_need_walk : PySem.W.codeIn K cd_need_walk "need_walk" = true)
    (k_need_walk : PySem.W.keepIn K (.ref F_need_walk) = true)
    (a_need_all : PySem.W.nsIn K mainGlobals "need_all" = some (some (.ref F_need_all)))
    (l_need_all : K.lookup F_need_all = some ⟨oc_need_all, od_need_all, .func (PySem.W.fnOf "need_all" "need_all" (defArgs s_need_all) (defBody s_need_all) (defScope s_need_all) .none kV_need_all dc_need_all pm_need_all an_need_all cd_need_all ct_need_all), sl_need_all⟩)
    (c_need_all : PySem.W.codeIn K cd_need_all "need_all" = true)
    (k_need_all : PySem.W.keepIn K (.ref F_need_all) = true)
    (a_Update_old : PySem.W.findIn K (.ref A_Update) "old" = some (some (.ref F_Update_old)))
    (i_Update_old : PySem.W.isFn K (.ref F_Update_old) = true)
    (l_Update_old : K.lookup F_Update_old = some ⟨oc_Update_old, od_Update_old, .func (PySem.W.fnOf "old" "Update.old" (defArgs s_Update_old) (defBody s_Update_old) (defScope s_Update_old) .none kV_Update_old dc_Update_old pm_Update_old an_Update_old cd_Update_old ct_Update_old), sl_Update_old⟩)
    (c_Update_old : PySem.W.codeIn K cd_Update_old "Update.old" = true)
    (k_Update_old : PySem.W.keepIn K (.ref F_Update_old) = true)
    (a_Table___getitem__ : PySem.W.findIn K (.ref A_Table) "__getitem__" = some (some (.ref F_Table___getitem__)))
    (i_Table___getitem__ : PySem.W.isFn K (.ref F_Table___getitem__) = true)
    (fn_Table___getitem__ : PySem.W.fnIn K F_Table___getitem__ = true)
    (l_Table___getitem__ : K.lookup F_Table___getitem__ = some ⟨oc_Table___getitem__, od_Table___getitem__, .func (PySem.W.fnOf "__getitem__" "Table.__getitem__" (defArgs s_Table___getitem__) (defBody s_Table___getitem__) (defScope s_Table___getitem__) .none kV_Table___getitem__ dc_Table___getitem__ pm_Table___getitem__ an_Table___getitem__ cd_Table___getitem__ ct_Table___getitem__), sl_Table___getitem__⟩)
    (c_Table___getitem__ : PySem.W.codeIn K cd_Table___getitem__ "Table.__getitem__" = true)
    (k_Table___getitem__ : PySem.W.keepIn K (.ref F_Table___getitem__) = true)
    (a_Plan_step_of : PySem.W.findIn K (.ref A_Plan) "step_of" = some (some (.ref F_Plan_step_of)))
    (i_Plan_step_of : PySem.W.isFn K (.ref F_Plan_step_of) = true)
    (l_Plan_step_of : K.lookup F_Plan_step_of = some ⟨oc_Plan_step_of, od_Plan_step_of, .func (PySem.W.fnOf "step_of" "Plan.step_of" (defArgs s_Plan_step_of) (defBody s_Plan_step_of) (defScope s_Plan_step_of) .none kV_Plan_step_of dc_Plan_step_of pm_Plan_step_of an_Plan_step_of cd_Plan_step_of ct_Plan_step_of), sl_Plan_step_of⟩)
    (c_Plan_step_of : PySem.W.codeIn K cd_Plan_step_of "Plan.step_of" = true)
    (k_Plan_step_of : PySem.W.keepIn K (.ref F_Plan_step_of) = true)
    (a_Update_new : PySem.W.findIn K (.ref A_Update) "new" = some (some (.ref F_Update_new)))
    (i_Update_new : PySem.W.isFn K (.ref F_Update_new) = true)
    (l_Update_new : K.lookup F_Update_new = some ⟨oc_Update_new, od_Update_new, .func (PySem.W.fnOf "new" "Update.new" (defArgs s_Update_new) (defBody s_Update_new) (defScope s_Update_new) .none kV_Update_new dc_Update_new pm_Update_new an_Update_new cd_Update_new ct_Update_new), sl_Update_new⟩)
    (c_Update_new : PySem.W.codeIn K cd_Update_new "Update.new" = true)
    (k_Update_new : PySem.W.keepIn K (.ref F_Update_new) = true)
    (a_word_of : PySem.W.nsIn K mainGlobals "word_of" = some (some (.ref F_word_of)))
    (l_word_of : K.lookup F_word_of = some ⟨oc_word_of, od_word_of, .func (PySem.W.fnOf "word_of" "word_of" (defArgs s_word_of) (defBody s_word_of) (defScope s_word_of) .none kV_word_of dc_word_of pm_word_of an_word_of cd_word_of ct_word_of), sl_word_of⟩)
    (c_word_of : PySem.W.codeIn K cd_word_of "word_of" = true)
    (k_word_of : PySem.W.keepIn K (.ref F_word_of) = true)
    (a_seen_words : PySem.W.nsIn K mainGlobals "seen_words" = some (some (.ref F_seen_words)))
    (l_seen_words : K.lookup F_seen_words = some ⟨oc_seen_words, od_seen_words, .func (PySem.W.fnOf "seen_words" "seen_words" (defArgs s_seen_words) (defBody s_seen_words) (defScope s_seen_words) .none kV_seen_words dc_seen_words pm_seen_words an_seen_words cd_seen_words ct_seen_words), sl_seen_words⟩)
    (c_seen_words : PySem.W.codeIn K cd_seen_words "seen_words" = true)
    (k_seen_words : PySem.W.keepIn K (.ref F_seen_words) = true)
    (a_need_steps : PySem.W.nsIn K mainGlobals "need_steps" = some (some (.ref F_need_steps)))
    (l_need_steps : K.lookup F_need_steps = some ⟨oc_need_steps, od_need_steps, .func (PySem.W.fnOf "need_steps" "need_steps" (defArgs s_need_steps) (defBody s_need_steps) (defScope s_need_steps) .none kV_need_steps dc_need_steps pm_need_steps an_need_steps cd_need_steps ct_need_steps), sl_need_steps⟩)
    (c_need_steps : PySem.W.codeIn K cd_need_steps "need_steps" = true)
    (k_need_steps : PySem.W.keepIn K (.ref F_need_steps) = true)
    (a_need_waits : PySem.W.nsIn K mainGlobals "need_waits" = some (some (.ref F_need_waits)))
    (l_need_waits : K.lookup F_need_waits = some ⟨oc_need_waits, od_need_waits, .func (PySem.W.fnOf "need_waits" "need_waits" (defArgs s_need_waits) (defBody s_need_waits) (defScope s_need_waits) .none kV_need_waits dc_need_waits pm_need_waits an_need_waits cd_need_waits ct_need_waits), sl_need_waits⟩)
    (c_need_waits : PySem.W.codeIn K cd_need_waits "need_waits" = true)
    (k_need_waits : PySem.W.keepIn K (.ref F_need_waits) = true)
    (a_Plan___init__ : PySem.W.findIn K (.ref A_Plan) "__init__" = some (some (.ref F_Plan___init__)))
    (i_Plan___init__ : PySem.W.isFn K (.ref F_Plan___init__) = true)
    (l_Plan___init__ : K.lookup F_Plan___init__ = some ⟨oc_Plan___init__, od_Plan___init__, .func (PySem.W.fnOf "__init__" "Plan.__init__" (defArgs s_Plan___init__) (defBody s_Plan___init__) (defScope s_Plan___init__) .none (.ref D_kw) dc_Plan___init__ pm_Plan___init__ an_Plan___init__ cd_Plan___init__ ct_Plan___init__), sl_Plan___init__⟩)
    (c_Plan___init__ : PySem.W.codeIn K cd_Plan___init__ "Plan.__init__" = true)
    (k_Plan___init__ : PySem.W.keepIn K (.ref F_Plan___init__) = true)
    (a_whole_plan : PySem.W.nsIn K mainGlobals "whole_plan" = some (some (.ref F_whole_plan)))
    (l_whole_plan : K.lookup F_whole_plan = some ⟨oc_whole_plan, od_whole_plan, .func (PySem.W.fnOf "whole_plan" "whole_plan" (defArgs s_whole_plan) (defBody s_whole_plan) (defScope s_whole_plan) .none kV_whole_plan dc_whole_plan pm_whole_plan an_whole_plan cd_whole_plan ct_whole_plan), sl_whole_plan⟩)
    (c_whole_plan : PySem.W.codeIn K cd_whole_plan "whole_plan" = true)
    (k_whole_plan : PySem.W.keepIn K (.ref F_whole_plan) = true)
    (a_stamped : PySem.W.nsIn K mainGlobals "stamped" = some (some (.ref F_stamped)))
    (l_stamped : K.lookup F_stamped = some ⟨oc_stamped, od_stamped, .func (PySem.W.fnOf "stamped" "stamped" (defArgs s_stamped) (defBody s_stamped) (defScope s_stamped) .none kV_stamped dc_stamped pm_stamped an_stamped cd_stamped ct_stamped), sl_stamped⟩)
    (c_stamped : PySem.W.codeIn K cd_stamped "stamped" = true)
    (k_stamped : PySem.W.keepIn K (.ref F_stamped) = true)
    (a_memory_behind : PySem.W.nsIn K mainGlobals "memory_behind" = some (some (.ref F_memory_behind)))
    (l_memory_behind : K.lookup F_memory_behind = some ⟨oc_memory_behind, od_memory_behind, .func (PySem.W.fnOf "memory_behind" "memory_behind" (defArgs s_memory_behind) (defBody s_memory_behind) (defScope s_memory_behind) .none kV_memory_behind dc_memory_behind pm_memory_behind an_memory_behind cd_memory_behind ct_memory_behind), sl_memory_behind⟩)
    (c_memory_behind : PySem.W.codeIn K cd_memory_behind "memory_behind" = true)
    (k_memory_behind : PySem.W.keepIn K (.ref F_memory_behind) = true)
    (a_is_possible_with : PySem.W.nsIn K mainGlobals "is_possible_with" = some (some (.ref F_is_possible_with)))
    (l_is_possible_with : K.lookup F_is_possible_with = some ⟨oc_is_possible_with, od_is_possible_with, .func (PySem.W.fnOf "is_possible_with" "is_possible_with" (defArgs s_is_possible_with) (defBody s_is_possible_with) (defScope s_is_possible_with) .none kV_is_possible_with dc_is_possible_with pm_is_possible_with an_is_possible_with cd_is_possible_with ct_is_possible_with), sl_is_possible_with⟩)
    (c_is_possible_with : PySem.W.codeIn K cd_is_possible_with "is_possible_with" = true)
    (k_is_possible_with : PySem.W.keepIn K (.ref F_is_possible_with) = true)
    (a_law : PySem.W.nsIn K mainGlobals "law" = some (some (.ref F_law)))
    (l_law : K.lookup F_law = some ⟨oc_law, od_law, .func (PySem.W.fnOf "law" "law" (defArgs s_law) (defBody s_law) (defScope s_law) .none kV_law dc_law pm_law an_law cd_law ct_law), sl_law⟩)
    (c_law : PySem.W.codeIn K cd_law "law" = true)
    (k_law : PySem.W.keepIn K (.ref F_law) = true)
    (z_bool : PySem.W.nsIn K mainGlobals "bool" = some none)
    (z_dict : PySem.W.nsIn K mainGlobals "dict" = some none)
    (z_enumerate : PySem.W.nsIn K mainGlobals "enumerate" = some none)
    (z_int : PySem.W.nsIn K mainGlobals "int" = some none)
    (z_isinstance : PySem.W.nsIn K mainGlobals "isinstance" = some none)
    (z_len : PySem.W.nsIn K mainGlobals "len" = some none)
    (z_list : PySem.W.nsIn K mainGlobals "list" = some none)
    (z_max : PySem.W.nsIn K mainGlobals "max" = some none)
    (z_range : PySem.W.nsIn K mainGlobals "range" = some none)
    (z_repr : PySem.W.nsIn K mainGlobals "repr" = some none)
    (z_sorted : PySem.W.nsIn K mainGlobals "sorted" = some none)
    (z_str : PySem.W.nsIn K mainGlobals "str" = some none)
    (z_tuple : PySem.W.nsIn K mainGlobals "tuple" = some none)
    (z_zip : PySem.W.nsIn K mainGlobals "zip" = some none)
    (y_LETTERS : PySem.W.nsIn K mainGlobals "LETTERS" = some (some (.str "abcdefghijklmnopqrstuvwxyz" t_LETTERS)))
    (y_MOST_EXITS : PySem.W.nsIn K mainGlobals "MOST_EXITS" = some (some (.int 3 t_MOST_EXITS)))
    (y_MOST_FLOWS : PySem.W.nsIn K mainGlobals "MOST_FLOWS" = some (some (.int 3 t_MOST_FLOWS)))
    (y_MOST_ITEMS : PySem.W.nsIn K mainGlobals "MOST_ITEMS" = some (some (.int 400 t_MOST_ITEMS)))
    (y_MOST_NODES : PySem.W.nsIn K mainGlobals "MOST_NODES" = some (some (.int 8 t_MOST_NODES)))
    (y_MOST_SIGNS : PySem.W.nsIn K mainGlobals "MOST_SIGNS" = some (some (.int 6 t_MOST_SIGNS)))
    (ne_Network : PySem.W.findIn K (.ref A_Network) "__ne__" = some (some (.builtin "object.__ne__")))
    (ob_Network : PySem.W.subIn K (.ref A_Network) (.type "object") = some true)
    (kw_Plan : PySem.W.nsIn K D_kw "waits" = some (some (.ref A_nw)))
    (l_nw : K.lookup A_nw = some ⟨.type "tuple", d_nw, .seq #[] n_nw, s_nw⟩)
    (kt_Network : PySem.W.kitOne K (.ref A_Network) (.ref A_Network) = some true)
    (kt_Table : PySem.W.kitOne K (.ref A_Table) (.ref A_Table) = some true) :
    ∃ fd : FuncData, (∀ (s : Shared) (v : Value), BindsTo s fd ⟨[v], []⟩ [("script", v)]) ∧ ∀ base : Heap, K.In base → base.Ns mainGlobals mg → FnG P w K mg base 10 fa fd ["script"] (spLaw K) := by
  have e := hfa.symm.trans (PySem.W.mg_of X G a_law)
  cases e
  have T : Tx K mg ⟨A_Network, A_Table, A_Plan, A_Update, 0, 0, 0, 0, A_nw⟩ ⟨F__law_begin, (PySem.W.fnOf "_law_begin" "_law_begin" (defArgs s__law_begin) (defBody s__law_begin) (defScope s__law_begin) .none kV__law_begin dc__law_begin pm__law_begin an__law_begin cd__law_begin ct__law_begin), F__law_draw, (PySem.W.fnOf "_law_draw" "_law_draw" (defArgs s__law_draw) (defBody s__law_draw) (defScope s__law_draw) .none kV__law_draw dc__law_draw pm__law_draw an__law_draw cd__law_draw ct__law_draw), F__law_pick, (PySem.W.fnOf "_law_pick" "_law_pick" (defArgs s__law_pick) (defBody s__law_pick) (defScope s__law_pick) .none kV__law_pick dc__law_pick pm__law_pick an__law_pick cd__law_pick ct__law_pick), F__law_names, (PySem.W.fnOf "_law_names" "_law_names" (defArgs s__law_names) (defBody s__law_names) (defScope s__law_names) .none kV__law_names dc__law_names pm__law_names an__law_names cd__law_names ct__law_names), F__law_mixed, (PySem.W.fnOf "_law_mixed" "_law_mixed" (defArgs s__law_mixed) (defBody s__law_mixed) (defScope s__law_mixed) .none kV__law_mixed dc__law_mixed pm__law_mixed an__law_mixed cd__law_mixed ct__law_mixed), F__law_hop, (PySem.W.fnOf "_law_hop" "_law_hop" (defArgs s__law_hop) (defBody s__law_hop) (defScope s__law_hop) .none kV__law_hop dc__law_hop pm__law_hop an__law_hop cd__law_hop ct__law_hop), F__law_flow, (PySem.W.fnOf "_law_flow" "_law_flow" (defArgs s__law_flow) (defBody s__law_flow) (defScope s__law_flow) .none kV__law_flow dc__law_flow pm__law_flow an__law_flow cd__law_flow ct__law_flow), F__law_model, (PySem.W.fnOf "_law_model" "_law_model" (defArgs s__law_model) (defBody s__law_model) (defScope s__law_model) .none kV__law_model dc__law_model pm__law_model an__law_model cd__law_model ct__law_model), F__law_shape, (PySem.W.fnOf "_law_shape" "_law_shape" (defArgs s__law_shape) (defBody s__law_shape) (defScope s__law_shape) .none kV__law_shape dc__law_shape pm__law_shape an__law_shape cd__law_shape ct__law_shape), F_is_name, (PySem.W.fnOf "is_name" "is_name" (defArgs s_is_name) (defBody s_is_name) (defScope s_is_name) .none kV_is_name dc_is_name pm_is_name an_is_name cd_is_name ct_is_name), F_Network___init__, (PySem.W.fnOf "__init__" "Network.__init__" (defArgs s_Network___init__) (defBody s_Network___init__) (defScope s_Network___init__) .none kV_Network___init__ dc_Network___init__ pm_Network___init__ an_Network___init__ cd_Network___init__ ct_Network___init__), F_Network_nodes, (PySem.W.fnOf "nodes" "Network.nodes" (defArgs s_Network_nodes) (defBody s_Network_nodes) (defScope s_Network_nodes) .none kV_Network_nodes dc_Network_nodes pm_Network_nodes an_Network_nodes cd_Network_nodes ct_Network_nodes), F_is_node, (PySem.W.fnOf "is_node" "is_node" (defArgs s_is_node) (defBody s_is_node) (defScope s_is_node) .none kV_is_node dc_is_node pm_is_node an_is_node cd_is_node ct_is_node), F_Network_exits, (PySem.W.fnOf "exits" "Network.exits" (defArgs s_Network_exits) (defBody s_Network_exits) (defScope s_Network_exits) .none kV_Network_exits dc_Network_exits pm_Network_exits an_Network_exits cd_Network_exits ct_Network_exits), F_is_exit, (PySem.W.fnOf "is_exit" "is_exit" (defArgs s_is_exit) (defBody s_is_exit) (defScope s_is_exit) .none kV_is_exit dc_is_exit pm_is_exit an_is_exit cd_is_exit ct_is_exit), F_is_hop, (PySem.W.fnOf "is_hop" "is_hop" (defArgs s_is_hop) (defBody s_is_hop) (defScope s_is_hop) .none kV_is_hop dc_is_hop pm_is_hop an_is_hop cd_is_hop ct_is_hop), F_Table___init__, (PySem.W.fnOf "__init__" "Table.__init__" (defArgs s_Table___init__) (defBody s_Table___init__) (defScope s_Table___init__) .none kV_Table___init__ dc_Table___init__ pm_Table___init__ an_Table___init__ cd_Table___init__ ct_Table___init__), F_Table_network, (PySem.W.fnOf "network" "Table.network" (defArgs s_Table_network) (defBody s_Table_network) (defScope s_Table_network) .none kV_Table_network dc_Table_network pm_Table_network an_Table_network cd_Table_network ct_Table_network), F_Network___eq__, (PySem.W.fnOf "__eq__" "Network.__eq__" (defArgs s_Network___eq__) (defBody s_Network___eq__) (defScope s_Network___eq__) .none kV_Network___eq__ dc_Network___eq__ pm_Network___eq__ an_Network___eq__ cd_Network___eq__ ct_Network___eq__), F_need_flows, (PySem.W.fnOf "need_flows" "need_flows" (defArgs s_need_flows) (defBody s_need_flows) (defScope s_need_flows) .none kV_need_flows dc_need_flows pm_need_flows an_need_flows cd_need_flows ct_need_flows), F_Update___init__, (PySem.W.fnOf "__init__" "Update.__init__" (defArgs s_Update___init__) (defBody s_Update___init__) (defScope s_Update___init__) .none kV_Update___init__ dc_Update___init__ pm_Update___init__ an_Update___init__ cd_Update___init__ ct_Update___init__), F__law_update, (PySem.W.fnOf "_law_update" "_law_update" (defArgs s__law_update) (defBody s__law_update) (defScope s__law_update) .none kV__law_update dc__law_update pm__law_update an__law_update cd__law_update ct__law_update), F__law_grown, (PySem.W.fnOf "_law_grown" "_law_grown" (defArgs s__law_grown) (defBody s__law_grown) (defScope s__law_grown) .none kV__law_grown dc__law_grown pm__law_grown an__law_grown cd__law_grown ct__law_grown), F__law_read, (PySem.W.fnOf "_law_read" "_law_read" (defArgs s__law_read) (defBody s__law_read) (defScope s__law_read) .none kV__law_read dc__law_read pm__law_read an__law_read cd__law_read ct__law_read), F__law_all_shown, (PySem.W.fnOf "_law_all_shown" "_law_all_shown" (defArgs s__law_all_shown) (defBody s__law_all_shown) (defScope s__law_all_shown) .none kV__law_all_shown dc__law_all_shown pm__law_all_shown an__law_all_shown cd__law_all_shown ct__law_all_shown), F__law_bent_walk, (PySem.W.fnOf "_law_bent_walk" "_law_bent_walk" (defArgs s__law_bent_walk) (defBody s__law_bent_walk) (defScope s__law_bent_walk) .none kV__law_bent_walk dc__law_bent_walk pm__law_bent_walk an__law_bent_walk cd__law_bent_walk ct__law_bent_walk), F__law_any_walk, (PySem.W.fnOf "_law_any_walk" "_law_any_walk" (defArgs s__law_any_walk) (defBody s__law_any_walk) (defScope s__law_any_walk) .none kV__law_any_walk dc__law_any_walk pm__law_any_walk an__law_any_walk cd__law_any_walk ct__law_any_walk), F_Update_flows, (PySem.W.fnOf "flows" "Update.flows" (defArgs s_Update_flows) (defBody s_Update_flows) (defScope s_Update_flows) .none kV_Update_flows dc_Update_flows pm_Update_flows an_Update_flows cd_Update_flows ct_Update_flows), F_need_flow, (PySem.W.fnOf "need_flow" "need_flow" (defArgs s_need_flow) (defBody s_need_flow) (defScope s_need_flow) .none kV_need_flow dc_need_flow pm_need_flow an_need_flow cd_need_flow ct_need_flow), F_Update_network, (PySem.W.fnOf "network" "Update.network" (defArgs s_Update_network) (defBody s_Update_network) (defScope s_Update_network) .none kV_Update_network dc_Update_network pm_Update_network an_Update_network cd_Update_network ct_Update_network), F_need_doubles, (PySem.W.fnOf "need_doubles" "need_doubles" (defArgs s_need_doubles) (defBody s_need_doubles) (defScope s_need_doubles) .none kV_need_doubles dc_need_doubles pm_need_doubles an_need_doubles cd_need_doubles ct_need_doubles), F_is_walk, (PySem.W.fnOf "is_walk" "is_walk" (defArgs s_is_walk) (defBody s_is_walk) (defScope s_is_walk) .none kV_is_walk dc_is_walk pm_is_walk an_is_walk cd_is_walk ct_is_walk), F_need_walk, (PySem.W.fnOf "need_walk" "need_walk" (defArgs s_need_walk) (defBody s_need_walk) (defScope s_need_walk) .none kV_need_walk dc_need_walk pm_need_walk an_need_walk cd_need_walk ct_need_walk), F_need_all, (PySem.W.fnOf "need_all" "need_all" (defArgs s_need_all) (defBody s_need_all) (defScope s_need_all) .none kV_need_all dc_need_all pm_need_all an_need_all cd_need_all ct_need_all), F_Update_old, (PySem.W.fnOf "old" "Update.old" (defArgs s_Update_old) (defBody s_Update_old) (defScope s_Update_old) .none kV_Update_old dc_Update_old pm_Update_old an_Update_old cd_Update_old ct_Update_old), F_Table___getitem__, (PySem.W.fnOf "__getitem__" "Table.__getitem__" (defArgs s_Table___getitem__) (defBody s_Table___getitem__) (defScope s_Table___getitem__) .none kV_Table___getitem__ dc_Table___getitem__ pm_Table___getitem__ an_Table___getitem__ cd_Table___getitem__ ct_Table___getitem__), F_Plan_step_of, (PySem.W.fnOf "step_of" "Plan.step_of" (defArgs s_Plan_step_of) (defBody s_Plan_step_of) (defScope s_Plan_step_of) .none kV_Plan_step_of dc_Plan_step_of pm_Plan_step_of an_Plan_step_of cd_Plan_step_of ct_Plan_step_of), F_Update_new, (PySem.W.fnOf "new" "Update.new" (defArgs s_Update_new) (defBody s_Update_new) (defScope s_Update_new) .none kV_Update_new dc_Update_new pm_Update_new an_Update_new cd_Update_new ct_Update_new), F_word_of, (PySem.W.fnOf "word_of" "word_of" (defArgs s_word_of) (defBody s_word_of) (defScope s_word_of) .none kV_word_of dc_word_of pm_word_of an_word_of cd_word_of ct_word_of), F_seen_words, (PySem.W.fnOf "seen_words" "seen_words" (defArgs s_seen_words) (defBody s_seen_words) (defScope s_seen_words) .none kV_seen_words dc_seen_words pm_seen_words an_seen_words cd_seen_words ct_seen_words), F_need_steps, (PySem.W.fnOf "need_steps" "need_steps" (defArgs s_need_steps) (defBody s_need_steps) (defScope s_need_steps) .none kV_need_steps dc_need_steps pm_need_steps an_need_steps cd_need_steps ct_need_steps), F_need_waits, (PySem.W.fnOf "need_waits" "need_waits" (defArgs s_need_waits) (defBody s_need_waits) (defScope s_need_waits) .none kV_need_waits dc_need_waits pm_need_waits an_need_waits cd_need_waits ct_need_waits), F_Plan___init__, (PySem.W.fnOf "__init__" "Plan.__init__" (defArgs s_Plan___init__) (defBody s_Plan___init__) (defScope s_Plan___init__) .none (.ref D_kw) dc_Plan___init__ pm_Plan___init__ an_Plan___init__ cd_Plan___init__ ct_Plan___init__), F_whole_plan, (PySem.W.fnOf "whole_plan" "whole_plan" (defArgs s_whole_plan) (defBody s_whole_plan) (defScope s_whole_plan) .none kV_whole_plan dc_whole_plan pm_whole_plan an_whole_plan cd_whole_plan ct_whole_plan), F_stamped, (PySem.W.fnOf "stamped" "stamped" (defArgs s_stamped) (defBody s_stamped) (defScope s_stamped) .none kV_stamped dc_stamped pm_stamped an_stamped cd_stamped ct_stamped), F_memory_behind, (PySem.W.fnOf "memory_behind" "memory_behind" (defArgs s_memory_behind) (defBody s_memory_behind) (defScope s_memory_behind) .none kV_memory_behind dc_memory_behind pm_memory_behind an_memory_behind cd_memory_behind ct_memory_behind), F_is_possible_with, (PySem.W.fnOf "is_possible_with" "is_possible_with" (defArgs s_is_possible_with) (defBody s_is_possible_with) (defScope s_is_possible_with) .none kV_is_possible_with dc_is_possible_with pm_is_possible_with an_is_possible_with cd_is_possible_with ct_is_possible_with), fa, (PySem.W.fnOf "law" "law" (defArgs s_law) (defBody s_law) (defScope s_law) .none kV_law dc_law pm_law an_law cd_law ct_law), .ref A_nw⟩ := {
    tc := ⟨⟨pg_Network, hd_Network, po_Network, sa_Network⟩, ⟨pg_Table, hd_Table, po_Table, sa_Table⟩, ⟨pg_Plan, hd_Plan, po_Plan, sa_Plan⟩, ⟨pg_Update, hd_Update, po_Update, sa_Update⟩, ⟨⟨pg_Network, hd_Network, po_Network, sa_Network⟩, ha_Network, hn_, htk_, hm_Network⟩, ⟨⟨pg_Table, hd_Table, po_Table, sa_Table⟩, ha_Table, hn_, htk_, hm_Table⟩, kt_Network, kt_Table, ⟨_, #[], n_nw, l_nw, rfl, rfl, by show 0 ≤ sizeLine; exact Nat.zero_le _, .nil⟩, na_Network_own_nodes, na_Network_own_exits, na_Table_own_network, na_Table_hops, na_Plan_rows, na_Plan_pauses, na_Plan_numbers, na_Update_own_network, na_Update_pairs⟩,
    b_bool := PySem.W.mg_none_of X G z_bool,
    b_dict := PySem.W.mg_none_of X G z_dict,
    b_enumerate := PySem.W.mg_none_of X G z_enumerate,
    b_int := PySem.W.mg_none_of X G z_int,
    b_isinstance := PySem.W.mg_none_of X G z_isinstance,
    b_len := PySem.W.mg_none_of X G z_len,
    b_list := PySem.W.mg_none_of X G z_list,
    b_max := PySem.W.mg_none_of X G z_max,
    b_range := PySem.W.mg_none_of X G z_range,
    b_repr := PySem.W.mg_none_of X G z_repr,
    b_sorted := PySem.W.mg_none_of X G z_sorted,
    b_str := PySem.W.mg_none_of X G z_str,
    b_tuple := PySem.W.mg_none_of X G z_tuple,
    b_zip := PySem.W.mg_none_of X G z_zip,
    f__law_all_shown := PySem.W.mg_of X G a__law_all_shown,
    f__law_any_walk := PySem.W.mg_of X G a__law_any_walk,
    f__law_begin := PySem.W.mg_of X G a__law_begin,
    f__law_bent_walk := PySem.W.mg_of X G a__law_bent_walk,
    f__law_draw := PySem.W.mg_of X G a__law_draw,
    f__law_flow := PySem.W.mg_of X G a__law_flow,
    f__law_grown := PySem.W.mg_of X G a__law_grown,
    f__law_hop := PySem.W.mg_of X G a__law_hop,
    f__law_mixed := PySem.W.mg_of X G a__law_mixed,
    f__law_model := PySem.W.mg_of X G a__law_model,
    f__law_names := PySem.W.mg_of X G a__law_names,
    f__law_pick := PySem.W.mg_of X G a__law_pick,
    f__law_read := PySem.W.mg_of X G a__law_read,
    f__law_shape := PySem.W.mg_of X G a__law_shape,
    f__law_update := PySem.W.mg_of X G a__law_update,
    f_is_exit := PySem.W.mg_of X G a_is_exit,
    f_is_hop := PySem.W.mg_of X G a_is_hop,
    f_is_name := PySem.W.mg_of X G a_is_name,
    f_is_node := PySem.W.mg_of X G a_is_node,
    f_is_possible_with := PySem.W.mg_of X G a_is_possible_with,
    f_is_walk := PySem.W.mg_of X G a_is_walk,
    f_memory_behind := PySem.W.mg_of X G a_memory_behind,
    f_need_all := PySem.W.mg_of X G a_need_all,
    f_need_doubles := PySem.W.mg_of X G a_need_doubles,
    f_need_flow := PySem.W.mg_of X G a_need_flow,
    f_need_flows := PySem.W.mg_of X G a_need_flows,
    f_need_steps := PySem.W.mg_of X G a_need_steps,
    f_need_waits := PySem.W.mg_of X G a_need_waits,
    f_need_walk := PySem.W.mg_of X G a_need_walk,
    f_seen_words := PySem.W.mg_of X G a_seen_words,
    f_stamped := PySem.W.mg_of X G a_stamped,
    f_whole_plan := PySem.W.mg_of X G a_whole_plan,
    f_word_of := PySem.W.mg_of X G a_word_of,
    g_LETTERS := ⟨_, PySem.W.mg_of X G y_LETTERS⟩,
    g_MOST_EXITS := ⟨_, PySem.W.mg_of X G y_MOST_EXITS⟩,
    g_MOST_FLOWS := ⟨_, PySem.W.mg_of X G y_MOST_FLOWS⟩,
    g_MOST_ITEMS := ⟨_, PySem.W.mg_of X G y_MOST_ITEMS⟩,
    g_MOST_NODES := ⟨_, PySem.W.mg_of X G y_MOST_NODES⟩,
    g_MOST_SIGNS := ⟨_, PySem.W.mg_of X G y_MOST_SIGNS⟩,
    kb_is_possible_with_3210 := letI : Wld := ⟨w⟩; kbn_of (fun_mk l_is_possible_with c_is_possible_with k_is_possible_with) (fun _ _ _ _ _ _ ws hl => match ws, hl with | [_, _, _, _], _ => rfl),
    m_Network := PySem.W.mg_of X G x_Network,
    m_Plan := PySem.W.mg_of X G x_Plan,
    m_Table := PySem.W.mg_of X G x_Table,
    m_Update := PySem.W.mg_of X G x_Update,
    me_Plan_step_of := ⟨a_Plan_step_of, i_Plan_step_of, k_Plan_step_of⟩,
    me_Update_new := ⟨a_Update_new, i_Update_new, k_Update_new⟩,
    me_Update_old := ⟨a_Update_old, i_Update_old, k_Update_old⟩,
    eq_Network := a_Network___eq__,
    eqf_Network := i_Network___eq__,
    ne_Network := ne_Network,
    ob_Network := ob_Network,
    pr_Network_exits := ⟨_, a_Network_exits, g_Network_exits, t_Network_exits, _, r_Network_exits⟩,
    pr_Network_nodes := ⟨_, a_Network_nodes, g_Network_nodes, t_Network_nodes, _, r_Network_nodes⟩,
    pr_Table_network := ⟨_, a_Table_network, g_Table_network, t_Table_network, _, r_Table_network⟩,
    pr_Update_flows := ⟨_, a_Update_flows, g_Update_flows, t_Update_flows, _, r_Update_flows⟩,
    pr_Update_network := ⟨_, a_Update_network, g_Update_network, t_Update_network, _, r_Update_network⟩,
    d__law_begin := df_mk l__law_begin c__law_begin k__law_begin (fun _ _ _ _ _ _ us hl => match us, hl with | [_, _], _ => rfl),
    d__law_draw := df_mk l__law_draw c__law_draw k__law_draw (fun _ _ _ _ _ _ us hl => match us, hl with | [_, _], _ => rfl),
    d__law_pick := df_mk l__law_pick c__law_pick k__law_pick (fun _ _ _ _ _ _ us hl => match us, hl with | [_, _], _ => rfl),
    d__law_names := df_mk l__law_names c__law_names k__law_names (fun _ _ _ _ _ _ us hl => match us, hl with | [_, _], _ => rfl),
    d__law_mixed := df_mk l__law_mixed c__law_mixed k__law_mixed (fun _ _ _ _ _ _ us hl => match us, hl with | [_, _], _ => rfl),
    d__law_hop := df_mk l__law_hop c__law_hop k__law_hop (fun _ _ _ _ _ _ us hl => match us, hl with | [_, _, _], _ => rfl),
    d__law_flow := df_mk l__law_flow c__law_flow k__law_flow (fun _ _ _ _ _ _ us hl => match us, hl with | [_, _, _], _ => rfl),
    d__law_model := df_mk l__law_model c__law_model k__law_model (fun _ _ _ _ _ _ us hl => match us, hl with | [_, _, _], _ => rfl),
    d__law_shape := df_mk l__law_shape c__law_shape k__law_shape (fun _ _ _ _ _ _ us hl => match us, hl with | [_, _, _], _ => rfl),
    d_is_name := df_mk l_is_name c_is_name k_is_name (fun _ _ _ _ _ _ us hl => match us, hl with | [_], _ => rfl),
    k_Network := ⟨mk_Network, a_Network___init__, i_Network___init__, kc_Network⟩,
    d_Network___init__ := df_mk l_Network___init__ c_Network___init__ k_Network___init__ (fun _ _ _ _ _ _ us hl => match us, hl with | [_, _, _], _ => rfl),
    d_Network_nodes := df_mk l_Network_nodes c_Network_nodes k_Network_nodes (fun _ _ _ _ _ _ us hl => match us, hl with | [_], _ => rfl),
    d_is_node := df_mk l_is_node c_is_node k_is_node (fun _ _ _ _ _ _ us hl => match us, hl with | [_, _], _ => rfl),
    d_Network_exits := df_mk l_Network_exits c_Network_exits k_Network_exits (fun _ _ _ _ _ _ us hl => match us, hl with | [_], _ => rfl),
    d_is_exit := df_mk l_is_exit c_is_exit k_is_exit (fun _ _ _ _ _ _ us hl => match us, hl with | [_, _], _ => rfl),
    d_is_hop := df_mk l_is_hop c_is_hop k_is_hop (fun _ _ _ _ _ _ us hl => match us, hl with | [_, _], _ => rfl),
    k_Table := ⟨mk_Table, a_Table___init__, i_Table___init__, kc_Table⟩,
    d_Table___init__ := df_mk l_Table___init__ c_Table___init__ k_Table___init__ (fun _ _ _ _ _ _ us hl => match us, hl with | [_, _, _], _ => rfl),
    d_Table_network := df_mk l_Table_network c_Table_network k_Table_network (fun _ _ _ _ _ _ us hl => match us, hl with | [_], _ => rfl),
    d_Network___eq__ := df_mk l_Network___eq__ c_Network___eq__ k_Network___eq__ (fun _ _ _ _ _ _ us hl => match us, hl with | [_, _], _ => rfl),
    d_need_flows := df_mk l_need_flows c_need_flows k_need_flows (fun _ _ _ _ _ _ us hl => match us, hl with | [_, _], _ => rfl),
    k_Update := ⟨mk_Update, a_Update___init__, i_Update___init__, kc_Update⟩,
    d_Update___init__ := df_mk l_Update___init__ c_Update___init__ k_Update___init__ (fun _ _ _ _ _ _ us hl => match us, hl with | [_, _, _], _ => rfl),
    d__law_update := df_mk l__law_update c__law_update k__law_update (fun _ _ _ _ _ _ us hl => match us, hl with | [_], _ => rfl),
    d__law_grown := df_mk l__law_grown c__law_grown k__law_grown (fun _ _ _ _ _ _ us hl => match us, hl with | [_, _, _], _ => rfl),
    d__law_read := df_mk l__law_read c__law_read k__law_read (fun _ _ _ _ _ _ us hl => match us, hl with | [_, _, _, _, _, _], _ => rfl),
    d__law_all_shown := df_mk l__law_all_shown c__law_all_shown k__law_all_shown (fun _ _ _ _ _ _ us hl => match us, hl with | [_, _, _, _], _ => rfl),
    d__law_bent_walk := df_mk l__law_bent_walk c__law_bent_walk k__law_bent_walk (fun _ _ _ _ _ _ us hl => match us, hl with | [_, _, _], _ => rfl),
    d__law_any_walk := df_mk l__law_any_walk c__law_any_walk k__law_any_walk (fun _ _ _ _ _ _ us hl => match us, hl with | [_, _], _ => rfl),
    d_Update_flows := df_mk l_Update_flows c_Update_flows k_Update_flows (fun _ _ _ _ _ _ us hl => match us, hl with | [_], _ => rfl),
    d_need_flow := df_mk l_need_flow c_need_flow k_need_flow (fun _ _ _ _ _ _ us hl => match us, hl with | [_, _], _ => rfl),
    d_Update_network := df_mk l_Update_network c_Update_network k_Update_network (fun _ _ _ _ _ _ us hl => match us, hl with | [_], _ => rfl),
    d_need_doubles := df_mk l_need_doubles c_need_doubles k_need_doubles (fun _ _ _ _ _ _ us hl => match us, hl with | [_, _], _ => rfl),
    d_is_walk := df_mk l_is_walk c_is_walk k_is_walk (fun _ _ _ _ _ _ us hl => match us, hl with | [_, _], _ => rfl),
    d_need_walk := df_mk l_need_walk c_need_walk k_need_walk (fun _ _ _ _ _ _ us hl => match us, hl with | [_, _], _ => rfl),
    d_need_all := df_mk l_need_all c_need_all k_need_all (fun _ _ _ _ _ _ us hl => match us, hl with | [_, _, _, _], _ => rfl),
    d_Update_old := df_mk l_Update_old c_Update_old k_Update_old (fun _ _ _ _ _ _ us hl => match us, hl with | [_, _], _ => rfl),
    ge_Table := ⟨a_Table___getitem__, fn_Table___getitem__, i_Table___getitem__⟩,
    d_Table___getitem__ := df_mk l_Table___getitem__ c_Table___getitem__ k_Table___getitem__ (fun _ _ _ _ _ _ us hl => match us, hl with | [_, _], _ => rfl),
    d_Plan_step_of := df_mk l_Plan_step_of c_Plan_step_of k_Plan_step_of (fun _ _ _ _ _ _ us hl => match us, hl with | [_, _], _ => rfl),
    d_Update_new := df_mk l_Update_new c_Update_new k_Update_new (fun _ _ _ _ _ _ us hl => match us, hl with | [_, _], _ => rfl),
    d_word_of := df_mk l_word_of c_word_of k_word_of (fun _ _ _ _ _ _ us hl => match us, hl with | [_, _, _, _, _], _ => rfl),
    d_seen_words := df_mk l_seen_words c_seen_words k_seen_words (fun _ _ _ _ _ _ us hl => match us, hl with | [_, _, _, _], _ => rfl),
    d_need_steps := df_mk l_need_steps c_need_steps k_need_steps (fun _ _ _ _ _ _ us hl => match us, hl with | [_], _ => rfl),
    d_need_waits := df_mk l_need_waits c_need_waits k_need_waits (fun _ _ _ _ _ _ us hl => match us, hl with | [_, _], _ => rfl),
    k_Plan := ⟨mk_Plan, a_Plan___init__, i_Plan___init__, kc_Plan⟩,
    bd_Plan := ⟨.cons rfl .nil, fun s us X hl => by
      have h2 : us.length = 2 := by rw [List.length_append] at hl; exact Nat.succ.inj hl
      match us, h2 with
      | [u, v], _ => exact BindsTo.of_looks fun M => KwChain.looks (l := [("waits", .ref A_nw)]) X (fun q hq => by rw [List.mem_singleton.mp hq]; exact kw_Plan) ⟨_, _, _, _, _, _, rfl, rfl, rfl⟩⟩,
    d_Plan___init__ := fun_mk l_Plan___init__ c_Plan___init__ k_Plan___init__,
    d_whole_plan := df_mk l_whole_plan c_whole_plan k_whole_plan (fun _ _ _ _ _ _ us hl => match us, hl with | [_], _ => rfl),
    d_stamped := df_mk l_stamped c_stamped k_stamped (fun _ _ _ _ _ _ us hl => match us, hl with | [_, _, _, _], _ => rfl),
    d_memory_behind := df_mk l_memory_behind c_memory_behind k_memory_behind (fun _ _ _ _ _ _ us hl => match us, hl with | [_, _, _, _], _ => rfl),
    d_is_possible_with := df_mk l_is_possible_with c_is_possible_with k_is_possible_with (fun _ _ _ _ _ _ us hl => match us, hl with | [_, _, _, _], _ => rfl),
    d_law := df_mk l_law c_law k_law (fun _ _ _ _ _ _ us hl => match us, hl with | [_], _ => rfl) }
  exact ⟨_, fun s v => .of_eq rfl, fun base _ _ => (DL.c_law T).ok⟩
end DL
set_option Elab.async false
set_option linter.all false
set_option maxRecDepth 100000
open PySem PySem.W PyProof.Rows in
set_option maxRecDepth 100000 in
set_option maxHeartbeats 0 in
theorem PySem.Challenge.cw_wayturns_k81_walks_with_doubles_by_all_r_holds : PySem.Challenge.rw_wayturns_k81_walks_with_doubles_by_all_r.Holds := by
  w_on; o_law; k_head; (case hw => w_witness2)
  k_fill
  refine DL.walkG (l := PySem.Challenge.rw_wayturns_k81_walks_with_doubles_by_all_r) (k := 10) rfl rfl ⟨rfl, by decide, by decide⟩ (fun w h Y => PySem.W.kIn_of Y) ?F
  case F =>
    intro w mg fa h KX G hmg
    refine' DL.all_mk KX G hmg ?x_Network ?pg_Network ?hd_Network ?po_Network ?sa_Network ?mk_Network ?kc_Network ?x_Table ?pg_Table ?hd_Table ?po_Table ?sa_Table ?mk_Table ?kc_Table ?x_Plan ?pg_Plan ?hd_Plan ?po_Plan ?sa_Plan ?mk_Plan ?kc_Plan ?x_Update ?pg_Update ?hd_Update ?po_Update ?sa_Update ?mk_Update ?kc_Update ?ha_Network ?hm_Network ?ha_Table ?hm_Table ?hn_ ?htk_ ?na_Network_own_nodes ?na_Network_own_exits ?na_Table_own_network ?na_Table_hops ?na_Plan_rows ?na_Plan_pauses ?na_Plan_numbers ?na_Update_own_network ?na_Update_pairs ?a__law_begin ?l__law_begin ?c__law_begin ?k__law_begin ?a__law_draw ?l__law_draw ?c__law_draw ?k__law_draw ?a__law_pick ?l__law_pick ?c__law_pick ?k__law_pick ?a__law_names ?l__law_names ?c__law_names ?k__law_names ?a__law_mixed ?l__law_mixed ?c__law_mixed ?k__law_mixed ?a__law_hop ?l__law_hop ?c__law_hop ?k__law_hop ?a__law_flow ?l__law_flow ?c__law_flow ?k__law_flow ?a__law_model ?l__law_model ?c__law_model ?k__law_model ?a__law_shape ?l__law_shape ?c__law_shape ?k__law_shape ?a_is_name ?l_is_name ?c_is_name ?k_is_name ?a_Network___init__ ?i_Network___init__ ?l_Network___init__ ?c_Network___init__ ?k_Network___init__ ?a_Network_nodes ?g_Network_nodes ?t_Network_nodes ?r_Network_nodes ?l_Network_nodes ?c_Network_nodes ?k_Network_nodes ?a_is_node ?l_is_node ?c_is_node ?k_is_node ?a_Network_exits ?g_Network_exits ?t_Network_exits ?r_Network_exits ?l_Network_exits ?c_Network_exits ?k_Network_exits ?a_is_exit ?l_is_exit ?c_is_exit ?k_is_exit ?a_is_hop ?l_is_hop ?c_is_hop ?k_is_hop ?a_Table___init__ ?i_Table___init__ ?l_Table___init__ ?c_Table___init__ ?k_Table___init__ ?a_Table_network ?g_Table_network ?t_Table_network ?r_Table_network ?l_Table_network ?c_Table_network ?k_Table_network ?a_Network___eq__ ?i_Network___eq__ ?l_Network___eq__ ?c_Network___eq__ ?k_Network___eq__ ?a_need_flows ?l_need_flows ?c_need_flows ?k_need_flows ?a_Update___init__ ?i_Update___init__ ?l_Update___init__ ?c_Update___init__ ?k_Update___init__ ?a__law_update ?l__law_update ?c__law_update ?k__law_update ?a__law_grown ?l__law_grown ?c__law_grown ?k__law_grown ?a__law_read ?l__law_read ?c__law_read ?k__law_read ?a__law_all_shown ?l__law_all_shown ?c__law_all_shown ?k__law_all_shown ?a__law_bent_walk ?l__law_bent_walk ?c__law_bent_walk ?k__law_bent_walk ?a__law_any_walk ?l__law_any_walk ?c__law_any_walk ?k__law_any_walk ?a_Update_flows ?g_Update_flows ?t_Update_flows ?r_Update_flows ?l_Update_flows ?c_Update_flows ?k_Update_flows ?a_need_flow ?l_need_flow ?c_need_flow ?k_need_flow ?a_Update_network ?g_Update_network ?t_Update_network ?r_Update_network ?l_Update_network ?c_Update_network ?k_Update_network ?a_need_doubles ?l_need_doubles ?c_need_doubles ?k_need_doubles ?a_is_walk ?l_is_walk ?c_is_walk ?k_is_walk ?a_need_walk ?l_need_walk ?c_need_walk ?k_need_walk ?a_need_all ?l_need_all ?c_need_all ?k_need_all ?a_Update_old ?i_Update_old ?l_Update_old ?c_Update_old ?k_Update_old ?a_Table___getitem__ ?i_Table___getitem__ ?fn_Table___getitem__ ?l_Table___getitem__ ?c_Table___getitem__ ?k_Table___getitem__ ?a_Plan_step_of ?i_Plan_step_of ?l_Plan_step_of ?c_Plan_step_of ?k_Plan_step_of ?a_Update_new ?i_Update_new ?l_Update_new ?c_Update_new ?k_Update_new ?a_word_of ?l_word_of ?c_word_of ?k_word_of ?a_seen_words ?l_seen_words ?c_seen_words ?k_seen_words ?a_need_steps ?l_need_steps ?c_need_steps ?k_need_steps ?a_need_waits ?l_need_waits ?c_need_waits ?k_need_waits ?a_Plan___init__ ?i_Plan___init__ ?l_Plan___init__ ?c_Plan___init__ ?k_Plan___init__ ?a_whole_plan ?l_whole_plan ?c_whole_plan ?k_whole_plan ?a_stamped ?l_stamped ?c_stamped ?k_stamped ?a_memory_behind ?l_memory_behind ?c_memory_behind ?k_memory_behind ?a_is_possible_with ?l_is_possible_with ?c_is_possible_with ?k_is_possible_with ?a_law ?l_law ?c_law ?k_law ?z_bool ?z_dict ?z_enumerate ?z_int ?z_isinstance ?z_len ?z_list ?z_max ?z_range ?z_repr ?z_sorted ?z_str ?z_tuple ?z_zip ?y_LETTERS ?y_MOST_EXITS ?y_MOST_FLOWS ?y_MOST_ITEMS ?y_MOST_NODES ?y_MOST_SIGNS ?ne_Network ?ob_Network ?kw_Plan ?l_nw ?kt_Network ?kt_Table
    (case x_Network => k_is)
    (case pg_Network => k_is)
    (case hd_Network => k_is)
    (case po_Network => k_is)
    (case sa_Network => k_is)
    (case mk_Network => k_is)
    (case kc_Network => k_is)
    (case x_Table => k_is)
    (case pg_Table => k_is)
    (case hd_Table => k_is)
    (case po_Table => k_is)
    (case sa_Table => k_is)
    (case mk_Table => k_is)
    (case kc_Table => k_is)
    (case x_Plan => k_is)
    (case pg_Plan => k_is)
    (case hd_Plan => k_is)
    (case po_Plan => k_is)
    (case sa_Plan => k_is)
    (case mk_Plan => k_is)
    (case kc_Plan => k_is)
    (case x_Update => k_is)
    (case pg_Update => k_is)
    (case hd_Update => k_is)
    (case po_Update => k_is)
    (case sa_Update => k_is)
    (case mk_Update => k_is)
    (case kc_Update => k_is)
    (case ha_Network => k_is)
    (case hm_Network => k_is)
    (case ha_Table => k_is)
    (case hm_Table => k_is)
    (case hn_ => k_is)
    (case htk_ => k_is)
    (case na_Network_own_nodes => k_is)
    (case na_Network_own_exits => k_is)
    (case na_Table_own_network => k_is)
    (case na_Table_hops => k_is)
    (case na_Plan_rows => k_is)
    (case na_Plan_pauses => k_is)
    (case na_Plan_numbers => k_is)
    (case na_Update_own_network => k_is)
    (case na_Update_pairs => k_is)
    (case a__law_begin => k_is)
    (case l__law_begin => k_is)
    (case c__law_begin => k_is)
    (case k__law_begin => k_is)
    (case a__law_draw => k_is)
    (case l__law_draw => k_is)
    (case c__law_draw => k_is)
    (case k__law_draw => k_is)
    (case a__law_pick => k_is)
    (case l__law_pick => k_is)
    (case c__law_pick => k_is)
    (case k__law_pick => k_is)
    (case a__law_names => k_is)
    (case l__law_names => k_is)
    (case c__law_names => k_is)
    (case k__law_names => k_is)
    (case a__law_mixed => k_is)
    (case l__law_mixed => k_is)
    (case c__law_mixed => k_is)
    (case k__law_mixed => k_is)
    (case a__law_hop => k_is)
    (case l__law_hop => k_is)
    (case c__law_hop => k_is)
    (case k__law_hop => k_is)
    (case a__law_flow => k_is)
    (case l__law_flow => k_is)
    (case c__law_flow => k_is)
    (case k__law_flow => k_is)
    (case a__law_model => k_is)
    (case l__law_model => k_is)
    (case c__law_model => k_is)
    (case k__law_model => k_is)
    (case a__law_shape => k_is)
    (case l__law_shape => k_is)
    (case c__law_shape => k_is)
    (case k__law_shape => k_is)
    (case a_is_name => k_is)
    (case l_is_name => k_is)
    (case c_is_name => k_is)
    (case k_is_name => k_is)
    (case a_Network___init__ => k_is)
    (case i_Network___init__ => k_is)
    (case l_Network___init__ => k_is)
    (case c_Network___init__ => k_is)
    (case k_Network___init__ => k_is)
    (case a_Network_nodes => k_is)
    (case g_Network_nodes => k_is)
    (case t_Network_nodes => k_is)
    (case r_Network_nodes => k_is)
    (case l_Network_nodes => k_is)
    (case c_Network_nodes => k_is)
    (case k_Network_nodes => k_is)
    (case a_is_node => k_is)
    (case l_is_node => k_is)
    (case c_is_node => k_is)
    (case k_is_node => k_is)
    (case a_Network_exits => k_is)
    (case g_Network_exits => k_is)
    (case t_Network_exits => k_is)
    (case r_Network_exits => k_is)
    (case l_Network_exits => k_is)
    (case c_Network_exits => k_is)
    (case k_Network_exits => k_is)
    (case a_is_exit => k_is)
    (case l_is_exit => k_is)
    (case c_is_exit => k_is)
    (case k_is_exit => k_is)
    (case a_is_hop => k_is)
    (case l_is_hop => k_is)
    (case c_is_hop => k_is)
    (case k_is_hop => k_is)
    (case a_Table___init__ => k_is)
    (case i_Table___init__ => k_is)
    (case l_Table___init__ => k_is)
    (case c_Table___init__ => k_is)
    (case k_Table___init__ => k_is)
    (case a_Table_network => k_is)
    (case g_Table_network => k_is)
    (case t_Table_network => k_is)
    (case r_Table_network => k_is)
    (case l_Table_network => k_is)
    (case c_Table_network => k_is)
    (case k_Table_network => k_is)
    (case a_Network___eq__ => k_is)
    (case i_Network___eq__ => k_is)
    (case l_Network___eq__ => k_is)
    (case c_Network___eq__ => k_is)
    (case k_Network___eq__ => k_is)
    (case a_need_flows => k_is)
    (case l_need_flows => k_is)
    (case c_need_flows => k_is)
    (case k_need_flows => k_is)
    (case a_Update___init__ => k_is)
    (case i_Update___init__ => k_is)
    (case l_Update___init__ => k_is)
    (case c_Update___init__ => k_is)
    (case k_Update___init__ => k_is)
    (case a__law_update => k_is)
    (case l__law_update => k_is)
    (case c__law_update => k_is)
    (case k__law_update => k_is)
    (case a__law_grown => k_is)
    (case l__law_grown => k_is)
    (case c__law_grown => k_is)
    (case k__law_grown => k_is)
    (case a__law_read => k_is)
    (case l__law_read => k_is)
    (case c__law_read => k_is)
    (case k__law_read => k_is)
    (case a__law_all_shown => k_is)
    (case l__law_all_shown => k_is)
    (case c__law_all_shown => k_is)
    (case k__law_all_shown => k_is)
    (case a__law_bent_walk => k_is)
    (case l__law_bent_walk => k_is)
    (case c__law_bent_walk => k_is)
    (case k__law_bent_walk => k_is)
    (case a__law_any_walk => k_is)
    (case l__law_any_walk => k_is)
    (case c__law_any_walk => k_is)
    (case k__law_any_walk => k_is)
    (case a_Update_flows => k_is)
    (case g_Update_flows => k_is)
    (case t_Update_flows => k_is)
    (case r_Update_flows => k_is)
    (case l_Update_flows => k_is)
    (case c_Update_flows => k_is)
    (case k_Update_flows => k_is)
    (case a_need_flow => k_is)
    (case l_need_flow => k_is)
    (case c_need_flow => k_is)
    (case k_need_flow => k_is)
    (case a_Update_network => k_is)
    (case g_Update_network => k_is)
    (case t_Update_network => k_is)
    (case r_Update_network => k_is)
    (case l_Update_network => k_is)
    (case c_Update_network => k_is)
    (case k_Update_network => k_is)
    (case a_need_doubles => k_is)
    (case l_need_doubles => k_is)
    (case c_need_doubles => k_is)
    (case k_need_doubles => k_is)
    (case a_is_walk => k_is)
    (case l_is_walk => k_is)
    (case c_is_walk => k_is)
    (case k_is_walk => k_is)
    (case a_need_walk => k_is)
    (case l_need_walk => k_is)
    (case c_need_walk => k_is)
    (case k_need_walk => k_is)
    (case a_need_all => k_is)
    (case l_need_all => k_is)
    (case c_need_all => k_is)
    (case k_need_all => k_is)
    (case a_Update_old => k_is)
    (case i_Update_old => k_is)
    (case l_Update_old => k_is)
    (case c_Update_old => k_is)
    (case k_Update_old => k_is)
    (case a_Table___getitem__ => k_is)
    (case i_Table___getitem__ => k_is)
    (case fn_Table___getitem__ => k_is)
    (case l_Table___getitem__ => k_is)
    (case c_Table___getitem__ => k_is)
    (case k_Table___getitem__ => k_is)
    (case a_Plan_step_of => k_is)
    (case i_Plan_step_of => k_is)
    (case l_Plan_step_of => k_is)
    (case c_Plan_step_of => k_is)
    (case k_Plan_step_of => k_is)
    (case a_Update_new => k_is)
    (case i_Update_new => k_is)
    (case l_Update_new => k_is)
    (case c_Update_new => k_is)
    (case k_Update_new => k_is)
    (case a_word_of => k_is)
    (case l_word_of => k_is)
    (case c_word_of => k_is)
    (case k_word_of => k_is)
    (case a_seen_words => k_is)
    (case l_seen_words => k_is)
    (case c_seen_words => k_is)
    (case k_seen_words => k_is)
    (case a_need_steps => k_is)
    (case l_need_steps => k_is)
    (case c_need_steps => k_is)
    (case k_need_steps => k_is)
    (case a_need_waits => k_is)
    (case l_need_waits => k_is)
    (case c_need_waits => k_is)
    (case k_need_waits => k_is)
    (case a_Plan___init__ => k_is)
    (case i_Plan___init__ => k_is)
    (case l_Plan___init__ => k_is)
    (case c_Plan___init__ => k_is)
    (case k_Plan___init__ => k_is)
    (case a_whole_plan => k_is)
    (case l_whole_plan => k_is)
    (case c_whole_plan => k_is)
    (case k_whole_plan => k_is)
    (case a_stamped => k_is)
    (case l_stamped => k_is)
    (case c_stamped => k_is)
    (case k_stamped => k_is)
    (case a_memory_behind => k_is)
    (case l_memory_behind => k_is)
    (case c_memory_behind => k_is)
    (case k_memory_behind => k_is)
    (case a_is_possible_with => k_is)
    (case l_is_possible_with => k_is)
    (case c_is_possible_with => k_is)
    (case k_is_possible_with => k_is)
    (case a_law => k_is)
    (case l_law => k_is)
    (case c_law => k_is)
    (case k_law => k_is)
    (case z_bool => k_is)
    (case z_dict => k_is)
    (case z_enumerate => k_is)
    (case z_int => k_is)
    (case z_isinstance => k_is)
    (case z_len => k_is)
    (case z_list => k_is)
    (case z_max => k_is)
    (case z_range => k_is)
    (case z_repr => k_is)
    (case z_sorted => k_is)
    (case z_str => k_is)
    (case z_tuple => k_is)
    (case z_zip => k_is)
    (case y_LETTERS => k_is)
    (case y_MOST_EXITS => k_is)
    (case y_MOST_FLOWS => k_is)
    (case y_MOST_ITEMS => k_is)
    (case y_MOST_NODES => k_is)
    (case y_MOST_SIGNS => k_is)
    (case ne_Network => k_is)
    (case ob_Network => k_is)
    (case kw_Plan => k_is)
    (case l_nw => k_is)
    (case kt_Network => kit_is)
    (case kt_Table => kit_is)
