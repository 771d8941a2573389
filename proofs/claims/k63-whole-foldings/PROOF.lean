import PyProof.Rows.All
import Wide.All
import OpenK.AllK
import Wide.FinOn
import HandS.Dict
import HandS.Conv
import HandS.Iter
import KE.KeyNested
import PyProof.DictRoadsH
import HandS.ForMost
import HandS.ForExc
import HandS.AnyAll
import HandS.Codes
import HandS.Lambda
import HandS.Deep
import HandS.TupAny
import HandS.TupMul
import HandS.Style
import HandS.Flow
import HandS.CallSlots
import PyProof.GenQ
import PyProof.ConsumeS
import HandS.GenOver
import HandS.Set
import HandS.TupSets
import HandS.Strs
import HandS.Zip
import KE.GoesMore
import KE.GoesEnum
import HandS.IsInst
import HandS.SortInts
import HandS.Text
import HandS.Exc
import HandS.TryOnly
import HandS.TryMany
import HandS.Defaults
import HandS.HeadHook4
import HandS.HeadWalk
import PyProof.StrLaws
import PyProof.StrBlockL
import KE.DataMinMax
import KE.KDictWalk
import HandS.SortKw
import HandS.List
import HandS.TupLen
import KE.KDictDisplayH
import PyProof.SumAny
import HandS.DictComp
import KE.SortData
import HandS.Head0
import HandS.Head1
import HandS.Head2
import PySem.Challenge.RW_dropframes_k63_whole_foldings
set_option Elab.async false
set_option linter.all false
set_option maxRecDepth 100000
set_option maxHeartbeats 4000000
/-! Dn1: dicts whose keys are nested tuples of whole numbers, bools and None. -/
namespace Dn
open PySem PySem.Spec PyProof.Rows L2
/-- an object as it stands -/
def ObjN (a : Addr) (od : Obj) : HO := .ext fun h => h.get? a = some od
theorem ObjN.ok {P : Program} {w : World} {H : Hp} {h : Heap} {a : Addr} {od : Obj} (e : h.get? a = some od) : ObjOk P w H h a (ObjN a od) := ⟨e, ⟨_, e⟩, fun _ _ p k => k _ p⟩
theorem ObjN.at {P : Program} {w : World} {H : Hp} {h : Heap} {a : Addr} {od : Obj} (ok : HOk P w H h) (e : H a = some (ObjN a od)) : h.get? a = some od := (show ObjOk P w H h a (ObjN a od) from ok a _ e).1
mutual
def plainK : NestedKey → Bool
  | .none => true
  | .num _ => true
  | .text _ => false
  | .tup ks => plainKs ks
def plainKs : List NestedKey → Bool
  | [] => true
  | k :: ks => plainK k && plainKs ks
end
mutual
def hash0 : NestedKey → Int
  | .none => reduceHash 0xFCA86420
  | .num i => hashInt i
  | .text _ => 0
  | .tup ks => reduceHash (Builtin.Tuple.tupleHashOf (hash0s ks))
def hash0s : List NestedKey → List Int
  | [] => []
  | k :: ks => hash0 k :: hash0s ks
end
mutual
theorem hash0_eq {w : World} : ∀ {k : NestedKey}, plainK k = true → k.hash w = hash0 k
  | .none, _ => rfl
  | .num i, _ => rfl
  | .text _, h => by cases h
  | .tup ks, h => by
    show reduceHash (Builtin.Tuple.tupleHashOf (NestedKey.hashes w ks)) = reduceHash (Builtin.Tuple.tupleHashOf (hash0s ks))
    rw [hash0s_eq (w := w) (ks := ks) h]
theorem hash0s_eq {w : World} : ∀ {ks : List NestedKey}, plainKs ks = true → NestedKey.hashes w ks = hash0s ks
  | [], _ => rfl
  | k :: ks, h => by
    have h : (plainK k && plainKs ks) = true := h
    rw [Bool.and_eq_true] at h
    show NestedKey.hash w k :: NestedKey.hashes w ks = hash0 k :: hash0s ks
    rw [hash0_eq h.1, hash0s_eq h.2]
end
mutual
/-- a value is a key -/
inductive KIs (H : Hp) : NestedKey → V → Prop
  | none : KIs H .none .non
  | bool {b : Bool} {i : Int} : i = (if b = true then 1 else 0) → KIs H (.num i) (.bl b)
  | int (i : Int) : KIs H (.num i) (.int i)
  | tup {a : Addr} {vs : List V} {ks : List NestedKey} : H a = some (.tup vs) → KAll H ks vs → KIs H (.tup ks) (.ref a)
inductive KAll (H : Hp) : List NestedKey → List V → Prop
  | nil : KAll H [] []
  | cons {k : NestedKey} {v : V} {ks : List NestedKey} {vs : List V} : KIs H k v → KAll H ks vs → KAll H (k :: ks) (v :: vs)
end
mutual
theorem KIs.nested {P : Program} {w : World} {H : Hp} {h : Heap} (ok : HOk P w H h) : ∀ {k : NestedKey} {v : V} {u : Value}, KIs H k v → RelV v u → NestedIs h k u
  | _, _, _, .none, r => by
    cases (show _ = Value.none from r)
    exact .none
  | _, _, _, .bool e, r => by
    cases (show _ = Value.bool _ from r)
    exact .bool e
  | _, _, _, .int i, r => by
    obtain ⟨t, rfl⟩ := (show ∃ t, _ = Value.int i t from r)
    exact .int i t
  | _, _, _, .tup (a := a) (vs := vs) (ks := ks) e q, r => by
    cases (show _ = Value.ref a from r)
    obtain ⟨_, its, rv, o, h1, h2, n, h3⟩ := (show ObjOk P w H h a (.tup vs) from ok a _ e)
    exact .tup h1 h2 h3 (by simpa using KAll.nested ok q rv)
theorem KAll.nested {P : Program} {w : World} {H : Hp} {h : Heap} (ok : HOk P w H h) : ∀ {ks : List NestedKey} {vs : List V} {us : List Value}, KAll H ks vs → Vals vs us → NestedAll h ks us
  | _, _, _, .nil, r => by cases r; exact .nil
  | _, _, _, .cons q qs, r => by
    cases r with
    | cons r rs => exact .cons (KIs.nested ok q r) (KAll.nested ok qs rs)
end
mutual
theorem KIs.mono {H H' : Hp} (s : ∀ a xs, H a = some (.tup xs) → H' a = some (.tup xs)) : ∀ {k : NestedKey} {v : V}, KIs H k v → KIs H' k v
  | _, _, .none => .none
  | _, _, .bool e => .bool e
  | _, _, .int i => .int i
  | _, _, .tup e q => .tup (s _ _ e) (KAll.mono s q)
theorem KAll.mono {H H' : Hp} (s : ∀ a xs, H a = some (.tup xs) → H' a = some (.tup xs)) : ∀ {ks : List NestedKey} {vs : List V}, KAll H ks vs → KAll H' ks vs
  | _, _, .nil => .nil
  | _, _, .cons q qs => .cons (KIs.mono s q) (KAll.mono s qs)
end
abbrev EntN := NestedKey × Addr × V
def EntR (x : EntN) (e : DictEntry) : Prop := e.hash = hash0 x.1 ∧ e.key = .ref x.2.1 ∧ RelV x.2.2 e.val
/-- the object od is a dict of these entries -/
def IsDN (od : Obj) (xs : List EntN) : Prop := od.ExactDict ∧ ∃ es ep, od.data = .dict es ep ∧ Paired EntR xs es.toList
/-- the keys are keys -/
def KeysN (H : Hp) (xs : List EntN) : Prop := (∀ x ∈ xs, KIs H x.1 (.ref x.2.1) ∧ x.1.depth ≤ 8 ∧ plainK x.1 = true) ∧ (xs.map (·.1)).Nodup
/-- a dict stands at a -/
def NRd (H : Hp) (a : Addr) (xs : List EntN) : Prop := (a == sysModules) = false ∧ xs.length ≤ sizeLine ∧ (∃ od, H a = some (ObjN a od) ∧ IsDN od xs) ∧ KeysN H xs
def atV (xs : List EntN) (k : NestedKey) : Option V := (xs.find? fun x => decide (x.1 = k)).map (·.2.2)
def putV (k : NestedKey) (v : V) (x : EntN) : EntN := if x.1 = k then (x.1, x.2.1, v) else x
def storedV (xs : List EntN) (k : NestedKey) (b : Addr) (v : V) : List EntN := if (atV xs k).isSome = true then xs.map (putV k v) else xs ++ [(k, b, v)]
abbrev RelN (x : EntN) (z : NestedKey × Addr × Value) : Prop := x.1 = z.1 ∧ x.2.1 = z.2.1 ∧ RelV x.2.2 z.2.2
theorem rel_at {xs : List EntN} {zs : List (NestedKey × Addr × Value)} (r : Paired RelN xs zs) (k : NestedKey) : RelO (atV xs k) ((atKey zs k).map (·.2)) := by
  induction r with
  | nil => exact True.intro
  | @cons p q ps qs h t ih =>
    obtain ⟨h1, _, h2⟩ := h
    by_cases e : p.1 = k
    · have e' : q.1 = k := h1.symm.trans e
      have b : atKey (q :: qs) k = some q.2 := by simp [atKey, List.find?_cons, e']
      have b2 : atV (p :: ps) k = some p.2.2 := by simp [atV, List.find?_cons, e]
      rw [b2, b]; exact h2
    · have e' : ¬ q.1 = k := fun z => e (h1.trans z)
      have b : atKey (q :: qs) k = atKey qs k := by simp [atKey, List.find?_cons, e']
      have b2 : atV (p :: ps) k = atV ps k := by simp [atV, List.find?_cons, e]
      rw [b2, b]; exact ih
theorem rel_repl {xs : List EntN} {zs : List (NestedKey × Addr × Value)} (r : Paired RelN xs zs) (k : NestedKey) {v : V} {u : Value} (ry : RelV v u) : Paired RelN (xs.map (putV k v)) (zs.map (putAt k u)) := by
  induction r with
  | nil => exact .nil
  | @cons p q ps qs h t ih =>
    rw [List.map_cons, List.map_cons]
    refine .cons ?_ ih
    obtain ⟨h1, h2, h3⟩ := h
    unfold putAt putV
    by_cases e : p.1 = k
    · rw [if_pos e, if_pos (h1.symm.trans e)]; exact ⟨h1, h2, ry⟩
    · rw [if_neg e, if_neg (fun z => e (h1.trans z))]; exact ⟨h1, h2, h3⟩
theorem rel_snoc {α β : Type} {R : α → β → Prop} {xs : List α} {zs : List β} (r : Paired R xs zs) {x : α} {z : β} (h : R x z) : Paired R (xs ++ [x]) (zs ++ [z]) := by
  induction r with
  | nil => exact .cons h .nil
  | cons q _ ih => exact .cons q ih
theorem rel_put {xs : List EntN} {zs : List (NestedKey × Addr × Value)} (r : Paired RelN xs zs) (k : NestedKey) {b : Addr} {v : V} {u : Value} (ry : RelV v u) : Paired RelN (storedV xs k b v) (storedH zs k b u) := by
  have e : (atV xs k).isSome = (atKey zs k).isSome := by
    rw [(rel_at r k).isSome_eq, Option.isSome_map]
  unfold storedV storedH
  rw [e]
  by_cases q : (atKey zs k).isSome = true
  · rw [if_pos q, if_pos q]; exact rel_repl r k ry
  · rw [if_neg q, if_neg q]; exact rel_snoc r ⟨rfl, rfl, ry⟩
theorem rel_len {α β : Type} {R : α → β → Prop} {xs : List α} {zs : List β} (r : Paired R xs zs) : xs.length = zs.length := by
  induction r with
  | nil => rfl
  | cons _ _ ih => rw [List.length_cons, List.length_cons, ih]
theorem rel_keys {xs : List EntN} {zs : List (NestedKey × Addr × Value)} (r : Paired RelN xs zs) : xs.map (·.1) = zs.map (·.1) := by
  induction r with
  | nil => rfl
  | cons h _ ih => rw [List.map_cons, List.map_cons, h.1, ih]
theorem ent_of {P : Program} {w : World} {xs : List EntN} {es : List DictEntry} (r : Paired EntR xs es) (hp : ∀ x ∈ xs, plainK x.1 = true) : ∃ zs, Paired RelN xs zs ∧ es = zs.map (entryOfKey (nestedKind P w)) := by
  induction r with
  | nil => exact ⟨[], .nil, rfl⟩
  | @cons x e xs es h t ih =>
    obtain ⟨zs, h1, h2⟩ := ih fun y hy => hp y (List.mem_cons_of_mem _ hy)
    refine ⟨(x.1, x.2.1, e.val) :: zs, .cons ⟨rfl, rfl, h.2.2⟩ h1, ?_⟩
    rw [List.map_cons, ← h2]
    congr 1
    have := hash0_eq (w := w) (hp x List.mem_cons_self)
    obtain ⟨a1, a2, a3⟩ := h
    show e = ⟨(nestedKind P w).hash x.1, .ref x.2.1, e.val⟩
    have e1 : (nestedKind P w).hash x.1 = e.hash := by
      show x.1.hash w = e.hash
      rw [this, a1]
    rw [e1, ← a2]
theorem ent_to {P : Program} {w : World} {xs : List EntN} {zs : List (NestedKey × Addr × Value)} (r : Paired RelN xs zs) (hp : ∀ x ∈ xs, plainK x.1 = true) : Paired EntR xs (zs.map (entryOfKey (nestedKind P w))) := by
  induction r with
  | nil => exact .nil
  | @cons x z xs zs h t ih =>
    rw [List.map_cons]
    refine .cons ?_ (ih fun y hy => hp y (List.mem_cons_of_mem _ hy))
    have := hash0_eq (w := w) (hp x List.mem_cons_self)
    refine ⟨?_, ?_, h.2.2⟩
    · show z.1.hash w = hash0 x.1
      rw [← h.1, this]
    · show Value.ref z.2.1 = _
      rw [h.2.1]
section
variable {P : Program} {w : World} {H : Hp} {h : Heap} {a b : Addr} {xs : List EntN} {k : NestedKey}
theorem n_rd (ok : HOk P w H h) (r : NRd H a xs) : ∃ zs, Paired RelN xs zs ∧ h.DictOfH (nestedKind P w) a zs := by
  obtain ⟨_, _, ⟨od, e, hx, es, ep, hd, pr⟩, hk, nd⟩ := r
  obtain ⟨zs, h1, h2⟩ := ent_of (P := P) (w := w) pr fun x hx => (hk x hx).2.2
  refine ⟨zs, h1, od, es, ep, ObjN.at ok e, hx, hd, h2, fun z hz => ?_, rel_keys h1 ▸ nd⟩
  have all : ∀ {l : List EntN} {m : List (NestedKey × Addr × Value)}, Paired RelN l m → (∀ x ∈ l, x ∈ xs) → ∀ z ∈ m, (nestedKind P w).is h z.1 z.2.1 := by
    intro l m q
    induction q with
    | nil => intro _ z hz; exact nomatch hz
    | @cons p q ps qs hq t ih =>
      intro sub z hz
      rcases List.mem_cons.mp hz with e | hz
      · subst e
        obtain ⟨k1, k2, _⟩ := hk p (sub p List.mem_cons_self)
        rw [← hq.1, ← hq.2.1]
        exact ⟨KIs.nested ok k1 rfl, k2⟩
      · exact ih (fun x hx => sub x (List.mem_cons_of_mem _ hx)) z hz
  exact all h1 (fun _ h => h) z hz
theorem n_typeIs {s : Shared} (ok : HOk P w H s.heap) (r : NRd H a xs) : s.TypeIs (.ref a) "dict" := by
  obtain ⟨_, _, ⟨od, e, hx, _⟩, _⟩ := r
  exact ⟨od, ObjN.at ok e, hx.1⟩
theorem atV_mem {v : V} (h : atV xs k = some v) : ∃ b, (k, b, v) ∈ xs := by
  unfold atV at h
  obtain ⟨x, hx, e⟩ := Option.map_eq_some_iff.mp h
  have h1 := List.mem_of_find?_eq_some hx
  have h2 : x.1 = k := of_decide_eq_true (List.find?_some (p := fun x : EntN => decide (x.1 = k)) hx)
  exact ⟨x.2.1, by rw [← h2, ← e]; exact h1⟩
theorem atV_none (h : ¬ (atV xs k).isSome = true) : k ∉ xs.map (·.1) := by
  intro hm
  obtain ⟨x, hx, e⟩ := List.mem_map.mp hm
  apply h
  unfold atV
  rw [Option.isSome_map]
  exact List.find?_isSome.mpr ⟨x, hx, decide_eq_true e⟩
theorem keys_repl (v : V) : (xs.map (putV k v)).map (·.1) = xs.map (·.1) := by
  rw [List.map_map]
  refine List.map_congr_left fun x _ => ?_
  show (putV k v x).1 = x.1
  unfold putV
  split <;> rfl
theorem KeysN.put {v : V} (h : KeysN H xs) (hk : KIs H k (.ref b)) (hd : k.depth ≤ 8) (hp : plainK k = true) : KeysN H (storedV xs k b v) := by
  unfold storedV
  by_cases q : (atV xs k).isSome = true
  · rw [if_pos q]
    refine ⟨fun x hx => ?_, by rw [keys_repl]; exact h.2⟩
    obtain ⟨y, hy, rfl⟩ := List.mem_map.mp hx
    have := h.1 y hy
    unfold putV
    split
    · exact this
    · exact this
  · rw [if_neg q]
    refine ⟨fun x hx => ?_, ?_⟩
    · rcases List.mem_append.mp hx with e | e
      · exact h.1 x e
      · rw [List.mem_singleton.mp e]
        exact ⟨hk, hd, hp⟩
    · rw [List.map_append]
      refine List.nodup_append.mpr ⟨h.2, by simp, fun x hx y hy => ?_⟩
      rw [List.map_singleton, List.mem_singleton] at hy
      rw [hy]
      intro e
      exact atV_none q (by rw [show k = x from e.symm]; exact hx)
theorem stored_len {v : V} : (storedV xs k b v).length ≤ xs.length + 1 := by
  unfold storedV
  split
  · rw [List.length_map]; omega
  · rw [List.length_append]; exact Nat.le_refl _
end
section
variable {X : Cx} {pins : List (Addr × Obj)} {σ : L2.St} {H : Hp} {s : Shared} {a b : Addr} {xs : List EntN} {k : NestedKey} {v : V} {u r : Value} {A : Around} {E : Value → Shared → Prop}
theorem n_getItem {Q : Value → Shared → Prop} (hu : A.units + 9 < cLine) (I : Inv X pins σ H s) (g : NRd H a xs) (hk : KIs H k (.ref b)) (hd : k.depth ≤ 8) (hv : atV xs k = some v) (h : ∀ w' s', Inv X pins σ H s' → RelV v w' → Q w' s') :
    wpAny (model X.prog X.w) A (getItem (.ref a) (.ref b)) Q E s := by
  obtain ⟨zs, rel, dd⟩ := n_rd I.hok g
  obtain ⟨w', hw, rw'⟩ := RelO.some_of (v := v) (o := (atKey zs k).map (·.2)) (by rw [← hv]; exact rel_at rel k)
  obtain ⟨p, hp, hp2⟩ := Option.map_eq_some_iff.mp hw
  refine wpAny_getItem_heap (knd := nestedKind X.prog X.w) (by show A.in1.units + 8 < cLine; rw [Around.in1_units]; omega) ⟨KIs.nested I.hok hk rfl, hd⟩ dd hp ?_
  rw [hp2]
  exact h w' _ (I.tok _) rw'
theorem n_in {Q : Value → Shared → Prop} (hu : A.units + 9 < cLine) (I : Inv X pins σ H s) (g : NRd H a xs) (hk : KIs H k (.ref b)) (hd : k.depth ≤ 8) (h : ∀ s', Inv X pins σ H s' → Q (.bool (atV xs k).isSome) s') :
    wpAny (model X.prog X.w) A (compareOp .In (.ref b) (.ref a)) Q E s := by
  obtain ⟨zs, rel, dd⟩ := n_rd I.hok g
  refine wpAny_in_heap (knd := nestedKind X.prog X.w) (by show A.in1.units + 8 < cLine; rw [Around.in1_units]; omega) ⟨KIs.nested I.hok hk rfl, hd⟩ g.1 dd ?_
  have q := (rel_at rel k).isSome_eq
  rw [Option.isSome_map] at q
  rw [← q]
  exact h _ (I.tok _)
theorem n_notIn {Q : Value → Shared → Prop} (hu : A.units + 9 < cLine) (I : Inv X pins σ H s) (g : NRd H a xs) (hk : KIs H k (.ref b)) (hd : k.depth ≤ 8) (h : ∀ s', Inv X pins σ H s' → Q (.bool (!(atV xs k).isSome)) s') :
    wpAny (model X.prog X.w) A (compareOp .NotIn (.ref b) (.ref a)) Q E s := by
  obtain ⟨zs, rel, dd⟩ := n_rd I.hok g
  refine wpAny_notIn_heap (knd := nestedKind X.prog X.w) (by show A.in1.units + 8 < cLine; rw [Around.in1_units]; omega) ⟨KIs.nested I.hok hk rfl, hd⟩ g.1 dd ?_
  have q := (rel_at rel k).isSome_eq
  rw [Option.isSome_map] at q
  rw [← q]
  exact h _ (I.tok _)
theorem n_setItem {Q : Unit → Shared → Prop} (hu : A.units + 9 < cLine) (I : Inv X pins σ H s) (g : NRd H a xs) (hk : KIs H k (.ref b)) (hd : k.depth ≤ 8) (hp : plainK k = true) (hl : xs.length < sizeLine) (rv : RelV v r)
    (h : ∀ od s', Inv X pins σ (upd H a (ObjN a od)) s' → NRd (upd H a (ObjN a od)) a (storedV xs k b v) → Q () s') :
    wpAny (model X.prog X.w) A (setItem (.ref a) (.ref b) r) Q E s := by
  obtain ⟨zs, rel, dd⟩ := n_rd I.hok g
  obtain ⟨g1, g2, ⟨od, g3, g4⟩, g5⟩ := id g
  have hz : zs.length ≤ sizeLine := by rw [← rel_len rel]; exact g2
  refine wpAny_setItem_heap (knd := nestedKind X.prog X.w) (hsz := hz) (by show A.in1.units + 8 < cLine; rw [Around.in1_units]; omega) ⟨KIs.nested I.hok hk rfl, hd⟩ dd fun h' dd' hs => ?_
  obtain ⟨q, es, ep, hq, h2, h3, h4, _, h5⟩ := dd'
  have k2 := (g5.put (v := v) hk hd hp)
  have keep : ∀ c ys, H c = some (.tup ys) → upd H a (ObjN a q) c = some (.tup ys) := fun c ys ec => by
    rw [upd_ne (ne_of ec g3 (fun z => nomatch z))]
    exact ec
  refine h q _ (d_write I (by rw [g3]; exact True.intro) hs ⟨q, hq⟩ (ObjN.ok hq)) ⟨g1, ?_, ⟨q, upd_same, h2, es, ep, h3, ?_⟩, fun x hx => ?_, k2.2⟩
  · have := stored_len (xs := xs) (k := k) (b := b) (v := v)
    omega
  · rw [h4]
    exact ent_to (rel_put rel k rv) fun x hx => (k2.1 x hx).2.2
  · obtain ⟨a1, a2⟩ := k2.1 x hx
    exact ⟨a1.mono keep, a2⟩
end
/-! ### rules -/
def tNGet (td ty : TE) : TE := fun σ H Q => td σ H fun x H1 => ty σ H1 fun y H2 => ∃ a xs k b v, x = .ref a ∧ NRd H2 a xs ∧ y = .ref b ∧ KIs H2 k (.ref b) ∧ k.depth ≤ 8 ∧ atV xs k = some v ∧ Q v H2
def tNIn (ty td : TE) : TE := fun σ H Q => ty σ H fun y H1 => td σ H1 fun x H2 => ∃ a xs k b, x = .ref a ∧ NRd H2 a xs ∧ y = .ref b ∧ KIs H2 k (.ref b) ∧ k.depth ≤ 8 ∧ Q (.bl (atV xs k).isSome) H2
def tNNotIn (ty td : TE) : TE := fun σ H Q => ty σ H fun y H1 => td σ H1 fun x H2 => ∃ a xs k b, x = .ref a ∧ NRd H2 a xs ∧ y = .ref b ∧ KIs H2 k (.ref b) ∧ k.depth ≤ 8 ∧ Q (.bl (!(atV xs k).isSome)) H2
def sNPut (td ty tv : TE) : TS := fun D σ H => tv σ H fun v H1 => td σ H1 fun x H2 => ty σ H2 fun y H3 => ∃ a xs k b, x = .ref a ∧ NRd H3 a xs ∧ y = .ref b ∧ KIs H3 k (.ref b) ∧ k.depth ≤ 8 ∧ plainK k = true ∧ xs.length < sizeLine ∧
  ∀ od, NRd (upd H3 a (ObjN a od)) a (storedV xs k b v) → D.nx σ (upd H3 a (ObjN a od))
def tNNew : TE := fun _ H Q => ∀ p od, H p = none → NRd (upd H p (ObjN p od)) p [] → Q (.ref p) (upd H p (ObjN p od))
section
variable {X : Cx} {o i e value : Expr} {pos pos' tpos : Pos} {td ty tv : TE}
theorem pe_nget (hu : X.A.units + 9 < cLine) (ho : PE X o td) (hi : PE X i ty) (hs : NoSl i) : PE X (.Subscript o i pos) (tNGet td ty) := by
  refine ⟨fun pins s σ H Q I h => ?_⟩
  refine subD_of PySem.F.slot_dict_getitem.lookup hs (thn (ho.run pins s σ H _ I h) fun u s1 ⟨x, H1, I1, rx, q1⟩ => thn (hi.run pins s1 σ H1 _ I1 q1) fun iv s2 ⟨y, H2, I2, ry, a, xs, k, b, v, ex, g, ey, hk, hd, hv, q2⟩ => ?_)
  subst ex ey
  obtain rfl : u = Value.ref a := rx
  obtain rfl : iv = Value.ref b := ry
  exact ⟨n_typeIs I2.hok g, n_getItem hu I2 g hk hd hv fun w' s3 I3 rw' => ⟨v, H2, I3, rw', q2⟩⟩
theorem pc_nin (hu : X.A.units + 9 < cLine) (hi : PE X i ty) (ho : PE X o td) : PC X .In i o (tNIn ty td) := by
  refine ⟨fun pins s σ H Q I h => ?_⟩
  refine thn (hi.run pins s σ H _ I h) fun iv s1 ⟨y, H1, I1, ry, q1⟩ => thn (ho.run pins s1 σ H1 _ I1 q1) fun u s2 ⟨x, H2, I2, rx, a, xs, k, b, ex, g, ey, hk, hd, q2⟩ => ?_
  subst ex ey
  obtain rfl : u = Value.ref a := rx
  obtain rfl : iv = Value.ref b := ry
  exact n_in hu I2 g hk hd fun s3 I3 => ⟨.bl (atV xs k).isSome, H2, I3, rfl, q2⟩
theorem pc_nnotin (hu : X.A.units + 9 < cLine) (hi : PE X i ty) (ho : PE X o td) : PC X .NotIn i o (tNNotIn ty td) := by
  refine ⟨fun pins s σ H Q I h => ?_⟩
  refine thn (hi.run pins s σ H _ I h) fun iv s1 ⟨y, H1, I1, ry, q1⟩ => thn (ho.run pins s1 σ H1 _ I1 q1) fun u s2 ⟨x, H2, I2, rx, a, xs, k, b, ex, g, ey, hk, hd, q2⟩ => ?_
  subst ex ey
  obtain rfl : u = Value.ref a := rx
  obtain rfl : iv = Value.ref b := ry
  exact n_notIn hu I2 g hk hd fun s3 I3 => ⟨.bl (!(atV xs k).isSome), H2, I3, rfl, q2⟩
theorem ps_nput (hu : X.A.units + 9 < cLine) (ho : PE X o td) (hi : PE X i ty) (hv : PE X value tv) (hs : swapsWith value (some (.Subscript o i pos')) pos.line X.env = pure false) :
    PS X (.Assign [.Subscript o i pos'] value pos) (sNPut td ty tv) := by
  refine ⟨fun pins s σ H D I h => ?_⟩
  refine wpAny_Assign_Subscript (thn (hv.run pins s σ H _ I h) fun r s1 ⟨v, H1, I1, rv, q1⟩ => thn (ho.run pins s1 σ H1 _ I1 q1) fun u s2 ⟨x, H2, I2, rx, q2⟩ => thn (hi.run pins s2 σ H2 _ I2 q2) fun iv s3 ⟨y, H3, I3, ry, a, xs, k, b, ex, g, ey, hk, hd, hp, hl, q3⟩ => ?_) hs
  subst ex ey
  obtain rfl : u = Value.ref a := rx
  obtain rfl : iv = Value.ref b := ry
  exact n_setItem hu I3 g hk hd hp hl rv fun od s4 I4 g4 => ⟨σ, _, I4, q3 od g4⟩
theorem pe_nnew : PE X (.Dict [] [] pos) tNNew := ⟨fun pins s σ H Q I h => by
  have hn := I.hok.fresh (Nat.le_refl s.heap.objs.size)
  have ho : (s.heap.push { cls := .type "dict", data := .dict #[] }).get? s.heap.objs.size = some { cls := .type "dict", data := .dict #[] } := Heap.get?_push_size _ rfl
  refine wpAny_Dict_empty ⟨.ref s.heap.objs.size, _, I.laid (a := s.heap.objs.size) (o := ObjN s.heap.objs.size { cls := .type "dict", data := .dict #[] }) (t' := s.toks) (fun _ _ q => Heap.get?_push_of_some _ q) (Nat.le_refl _) (ObjN.ok ho), rfl, h _ _ hn ?_⟩
  exact ⟨beq_eq_false_iff_ne.mpr (Ne.symm (Nat.ne_of_lt I.big)), Nat.zero_le _, ⟨_, upd_same, ⟨⟨rfl, rfl, rfl⟩, #[], 0, rfl, .nil⟩⟩, ⟨fun x hx => (nomatch hx), List.nodup_nil⟩⟩⟩
end
theorem len_of {xs : List EntN} {es : Array DictEntry} (r : Paired EntR xs es.toList) : xs.length = es.size := by
  have h1 := rel_len r
  have h2 : es.toList.length = es.size := by simp
  omega
/-! ### list(d), len(d), its keys one by one -/
section
variable {X : Cx}
theorem vals_refs : ∀ bs : List Addr, Vals (bs.map V.ref) (bs.map Value.ref)
  | [] => .nil
  | _ :: r => .cons rfl (vals_refs r)
theorem call_list_n (hc : X.calm = true) : CallR X (.type "list") (fun vs H Q => ∃ d xs, vs = [V.ref d] ∧ NRd H d xs ∧ ∀ p, H p = none → Q (.ref p) (upd H p (.lst (xs.map fun x => V.ref x.2.1)))) := by
  intro pins s σ H vs us Q I r h
  obtain ⟨d, xs, rfl, hd, q⟩ := h
  obtain ⟨u, rfl, rx⟩ := r.one
  cases rx
  obtain ⟨hs, z, ⟨od, e, hx, es, ep, hdt, pr⟩, hk⟩ := id hd
  have l2 : xs.length = es.size := len_of pr
  refine PySem.W.kdl_call (kdl_raw hs hx hdt) (I.ok.hd hc) (ObjN.at I.hok e) (by omega) fun h' tk acc' c' kp e2 it => ?_
  have ea : acc'.toList = (xs.map fun x => x.2.1).map Value.ref := by
    have hl : acc'.toList.length = xs.length := by
      have h1 : acc'.toList.length = acc'.size := by simp
      have h2 := it.1
      omega
    have ent : ∀ {l : List EntN} {m : List DictEntry}, Paired EntR l m → m.map (·.key) = (l.map fun x => x.2.1).map Value.ref := by
      intro l m q
      induction q with
      | nil => rfl
      | cons h _ ih => rw [List.map_cons, List.map_cons, List.map_cons, ih, h.2.1]
    rw [← ent pr]
    apply List.ext_getElem?
    intro j
    rw [List.getElem?_map]
    cases hj : acc'.toList[j]? with
    | none =>
      have h1 := List.getElem?_eq_none_iff.mp hj
      rw [List.getElem?_eq_none (by have : es.toList.length = es.size := by simp
                                    omega)]
      all_goals rfl
    | some v =>
      obtain ⟨en, hen, hv⟩ := it.2 j v (by rw [← Array.getElem?_toList]; exact hj)
      rw [Array.getElem?_toList, hen, hv]
      all_goals rfl
  have rv : Vals (xs.map fun x => V.ref x.2.1) acc'.toList := by
    rw [ea]
    have := vals_refs (xs.map fun x => x.2.1)
    rw [List.map_map] at this
    exact this
  refine ⟨.ref s.heap.objs.size, _, I.laid (t' := tk) (o := .lst (xs.map fun x => V.ref x.2.1)) kp (Nat.le_refl _) ?_, rfl, q _ (I.hok.fresh (Nat.le_refl _))⟩
  exact ⟨by rw [List.length_map]; exact z, acc'.toList, c', rv, by rw [Array.toArray_toList]; exact e2⟩
/-- the keys of the dict at d, as it stands -/
def Itn (d : Addr) (od : Obj) (xs : List EntN) : It :=
  ⟨fun i H => H d = some (ObjN d od) ∧ i < xs.length, fun i H v H' => H' = H ∧ ∃ x, xs[i]? = some x ∧ v = .ref x.2.1, fun i H => H d = some (ObjN d od) ∧ xs.length ≤ i⟩
theorem pr_get {α β : Type} {R : α → β → Prop} {l : List α} {m : List β} (q : Paired R l m) : ∀ {i : Nat} {x : α}, l[i]? = some x → ∃ y, m[i]? = some y ∧ R x y := by
  induction q with
  | nil => intro i x h; simp at h
  | cons h _ ih =>
    intro i x hx
    cases i with
    | zero => simp at hx; subst hx; exact ⟨_, rfl, h⟩
    | succ i => exact ih (i := i) (by simpa using hx)
theorem turn_n {P : Program} {w : World} {K : PySem.W.Frag} {tg : Expr} {d : Addr} {od : Obj} {es : Array DictEntry} {ep : Nat} {xs : List EntN} (it : Addr) (hod : od.data = .dict es ep) (pr : Paired EntR xs es.toList) : Turn P w K tg (Itn d od xs) [it] it (fun i h => h.IsKeyIter it d i xs.length ep) where
  mem := by simp
  obj := fun i h st b hb => by
    have e : b = it := by simpa using hb
    subst e
    obtain ⟨oi, e, c, dd⟩ := st
    exact ⟨oi, e, fun v z => by rw [dd] at z; cases z⟩
  keep := fun i h h' st k => st.at fun oi e => k it (by simp) oi e
  item := by
    intro X hP hw hK hc i pins s σ H E I hf st hg
    subst hP hw hK
    obtain ⟨hd, hi⟩ := hg
    obtain ⟨f0, f1, f2, f3, f4, f5⟩ := hf it (by simp)
    have l2 : xs.length = es.size := len_of pr
    obtain ⟨x, hx⟩ : ∃ x, xs[i]? = some x := ⟨xs[i], List.getElem?_eq_getElem hi⟩
    obtain ⟨en, hen, hr⟩ := pr_get pr hx
    rw [Array.getElem?_toList] at hen
    refine next_key_item st (ObjN.at I.hok hd) hod l2.symm hen fun h' st' sb => ?_
    have I1 : Inv X pins σ H { s with heap := h' } := I.turned (t' := s.toks) (fun b ob hb e => (sb.2 b hb).trans e) f0 f1 f3 f4 f5
    obtain ⟨oi, e, c, dd⟩ := id st'
    exact ⟨en.key, rfl, go_of (s := { s with heap := h' }) e c dd (by decide) ⟨.ref x.2.1, H, I1, hr.2.1, ⟨rfl, x, hx, rfl⟩, st', fun b hb => (hf b hb).1⟩⟩
  done := by
    intro X hP hw hK hc i pins s σ H E I hf st hg
    subst hP hw hK
    obtain ⟨hd, hi⟩ := hg
    obtain ⟨f0, f1, f2, f3, f4, f5⟩ := hf it (by simp)
    have l2 : xs.length = es.size := len_of pr
    exact next_key_end (I.ok.hd hc) st (ObjN.at I.hok hd) hod l2.symm hi fun h' eb => ⟨rfl, I.turned (t' := s.toks) (fun b ob hb e => eb b ob hb e) f0 f1 f3 f4 f5⟩
  self := fun A i s Q E st h => wpAny_pyIter_keyiter st h
def iN (td : TE) : TI := fun σ H R => td σ H fun v H1 => ∃ d xs, v = .ref d ∧ NRd H1 d xs ∧ ∀ od, H1 d = some (ObjN d od) → IsDN od xs → R (Itn d od xs) H1
theorem pi_n {tg e : Expr} {td : TE} (he : PE X e td) : PI X tg e (iN td) := by
  refine ⟨fun pins s σ H R I h => ?_⟩
  refine thn (he.run pins s σ H _ I h) fun v s1 ⟨y, H1, I1, r1, d, xs, ev, g, q⟩ => ?_
  subst ev
  obtain rfl : v = Value.ref d := r1
  obtain ⟨hs, z, ⟨od, e1, hx, es, ep, hdt, pr⟩, hk⟩ := id g
  have l2 : xs.length = es.size := len_of pr
  refine iter_keys hs (ObjN.at I1.hok e1) hx hdt (pi_one (tk := s1.toks) I1 _ (turn_n _ hdt pr) ⟨_, Heap.get?_push_size _ rfl, rfl, by rw [l2] <;> rfl⟩ (q od e1 ⟨hx, es, ep, hdt, pr⟩))
end
end Dn

set_option Elab.async false
set_option linter.all false
set_option maxRecDepth 100000
set_option maxHeartbeats 4000000
/-! Dl1: data trees, what represents them, environments of data, the readings rd, rdT, rdS. -/
namespace Dl
open PySem PySem.Spec PyProof.Rows L2

/-- the part F of the heap stays as it is -/
def Sub (F H : Hp) : Prop := ∀ a o, F a = some o → H a = some o
theorem Sub.refl (F : Hp) : Sub F F := fun _ _ h => h
theorem Sub.trans {F G H : Hp} (a : Sub F G) (b : Sub G H) : Sub F H := fun x o h => b x o (a x o h)
theorem Sub.rd {F H : Hp} (s : Sub F H) {a : Addr} {u : HO} (h : Rd F a u) : Rd H a u := by
  rcases h with h | ⟨o, h⟩
  · exact .inl (s _ _ h)
  · exact .inr ⟨o, s _ _ h⟩
theorem Sub.sql {K : PySem.W.Frag} {F H : Hp} (s : Sub F H) {a : Addr} {xs : List V} (h : SqL K F a xs) : SqL K H a xs := by
  rcases h with h | h
  · exact .inl (s.rd h)
  · exact .inr h
theorem Sub.sqt {K : PySem.W.Frag} {F H : Hp} (s : Sub F H) {a : Addr} {xs : List V} (h : SqT K F a xs) : SqT K H a xs := by
  rcases h with h | h
  · exact .inl (s.rd h)
  · exact .inr h
theorem Sub.new {F : Hp} {p : Addr} {o : HO} (h : F p = none) : Sub F (upd F p o) := fun a u e => by
  rw [upd_ne (ne_of_none e h)]
  exact e

/-- a thing by what is known of its object, which stays -/
structure AbsO where
  φ : Addr → Hp → Prop
  mono : ∀ {a : Addr} {F F' : Hp}, Sub F F' → φ a F → φ a F'
/-- the code objects' tables: all of them; the name of the lambdas that one makes -/
structure Tbs where
  g : List Addr
  q : Addr → Option Str
instance : Membership Addr Tbs := ⟨fun T a => a ∈ T.g⟩
/-- data: what a value is, as a tree; obj: the value itself; ptr: the j-th shared object; scr: the law's script -/
inductive Dt where
  | non | bl (b : Bool) | int (i : Int) | str (s : Str) | tup (ds : List Dt) | lst (ds : List Dt) | dic (t : Bool) (ks ds : List Dt) | obj (v : V) | ptr (j : Nat) | scr (ns : List Int) | abs (A : AbsO)

/-- a dict's key as data -/
def keyD : Key → Dt
  | .inl i => .int i
  | .inr x => .str x
mutual
/-- data as a key -/
def nkey : Dt → NestedKey
  | .bl b => .num (if b = true then 1 else 0)
  | .int i => .num i
  | .tup ds => .tup (nkeys ds)
  | _ => .none
def nkeys : List Dt → List NestedKey
  | [] => []
  | d :: ds => nkey d :: nkeys ds
end
/-- whole numbers, bools, None, tuples of such, n deep -/
def kd : Nat → Dt → Bool
  | _, .non => true
  | _, .bl _ => true
  | _, .int _ => true
  | n + 1, .tup ds => ds.all (kd n)
  | _, _ => false
/-- a dict's object: its keys, its values (false: keys ints and texts; true: nested tuples) -/
def DkO : Bool → Addr → HO → List Dt → List V → List V → Prop
  | false, _, .dK kvs, ks, ka, vs => ks = kvs.map (fun p => keyD p.1) ∧ ka = kvs.map (fun p => kV p.1) ∧ vs = kvs.map (·.2)
  | true, a, u, ks, ka, vs => (a == sysModules) = false ∧ ∃ (od : Obj) (xs : List Dn.EntN), u = Dn.ObjN a od ∧ Dn.IsDN od xs ∧ xs.length ≤ sizeLine ∧ xs.map (·.1) = ks.map nkey ∧ (xs.map (·.1)).Nodup ∧ (∀ k ∈ ks, kd 8 k = true) ∧ ka = xs.map (fun x => V.ref x.2.1) ∧ vs = xs.map (·.2.2)
  | _, _, _, _, _, _ => False
theorem DkO.notTbl {t : Bool} {a : Addr} {u : HO} {ks : List Dt} {ka vs : List V} (h : DkO t a u ks ka vs) : ∀ q, u ≠ .tbl q := fun q z => by
  subst z
  cases t with
  | false => exact h
  | true =>
    obtain ⟨_, od, xs, e, _⟩ := h
    exact nomatch e
mutual
/-- v is the data d, by what stays -/
inductive Rp (K : PySem.W.Frag) (F : Hp) (fi : List Addr) : V → Dt → Prop
  | non : Rp K F fi .non .non
  | bl (b : Bool) : Rp K F fi (.bl b) (.bl b)
  | int (i : Int) : Rp K F fi (.int i) (.int i)
  | str (s : Str) : Rp K F fi (.str s) (.str s)
  | tup {a : Addr} {vs : List V} {ds : List Dt} : F a = some (.tup vs) → RpL K F fi vs ds → Rp K F fi (.ref a) (.tup ds)
  | lst {a : Addr} {vs : List V} {ds : List Dt} : F a = some (.lst vs) → RpL K F fi vs ds → Rp K F fi (.ref a) (.lst ds)
  | dic {a : Addr} {t : Bool} {u : HO} {ks : List Dt} {ka vs : List V} {ds : List Dt} : F a = some u → DkO t a u ks ka vs → RpL K F fi ka ks → RpL K F fi vs ds → Rp K F fi (.ref a) (.dic t ks ds)
  | obj (v : V) : Rp K F fi v (.obj v)
  | ptr {j : Nat} {a : Addr} : fi[j]? = some a → Rp K F fi (.ref a) (.ptr j)
  | scr {a : Addr} {ns : List Int} : SqL K F a (ns.map V.int) → Rp K F fi (.ref a) (.scr ns)
  | abs {a : Addr} {A : AbsO} : A.φ a F → Rp K F fi (.ref a) (.abs A)
inductive RpL (K : PySem.W.Frag) (F : Hp) (fi : List Addr) : List V → List Dt → Prop
  | nil : RpL K F fi [] []
  | cons {v : V} {d : Dt} {vs : List V} {ds : List Dt} : Rp K F fi v d → RpL K F fi vs ds → RpL K F fi (v :: vs) (d :: ds)
end

theorem pre_get {fi fi' : List Addr} (h : fi <+: fi') {j : Nat} {a : Addr} (e : fi[j]? = some a) : fi'[j]? = some a := by
  obtain ⟨r, rfl⟩ := h
  rw [List.getElem?_append_left (List.getElem?_eq_some_iff.mp e).1]
  exact e

section
variable {K : PySem.W.Frag} {F F' : Hp} {fi fi' : List Addr}
mutual
theorem Rp.mono (s : Sub F F') (p : fi <+: fi') : ∀ {v : V} {d : Dt}, Rp K F fi v d → Rp K F' fi' v d
  | _, _, .non => .non
  | _, _, .bl b => .bl b
  | _, _, .int i => .int i
  | _, _, .str x => .str x
  | _, _, .tup h r => .tup (s _ _ h) (RpL.mono s p r)
  | _, _, .lst h r => .lst (s _ _ h) (RpL.mono s p r)
  | _, _, .dic h k q r => .dic (s _ _ h) k (RpL.mono s p q) (RpL.mono s p r)
  | _, _, .obj v => .obj v
  | _, _, .ptr h => .ptr (pre_get p h)
  | _, _, .scr h => .scr (s.sql h)
  | _, _, .abs h => .abs (AbsO.mono _ s h)
theorem RpL.mono (s : Sub F F') (p : fi <+: fi') : ∀ {vs : List V} {ds : List Dt}, RpL K F fi vs ds → RpL K F' fi' vs ds
  | _, _, .nil => .nil
  | _, _, .cons h r => .cons (Rp.mono s p h) (RpL.mono s p r)
end
theorem RpL.length : ∀ {vs : List V} {ds : List Dt}, RpL K F fi vs ds → vs.length = ds.length
  | _, _, .nil => rfl
  | _, _, .cons _ r => by rw [List.length_cons, List.length_cons, RpL.length r]
theorem RpL.append : ∀ {vs ws : List V} {ds es : List Dt}, RpL K F fi vs ds → RpL K F fi ws es → RpL K F fi (vs ++ ws) (ds ++ es)
  | _, _, _, _, .nil, s => s
  | _, _, _, _, .cons h r, s => .cons h (RpL.append r s)
theorem RpL.get : ∀ {vs : List V} {ds : List Dt} {i : Nat} {v : V}, RpL K F fi vs ds → vs[i]? = some v → ∃ d, ds[i]? = some d ∧ Rp K F fi v d
  | _, _, _, _, .nil, e => by simp at e
  | _, _, 0, _, .cons h _, e => by simp at e; subst e; exact ⟨_, rfl, h⟩
  | _, _, i + 1, _, .cons _ r, e => by
    obtain ⟨d, h1, h2⟩ := RpL.get (i := i) r (by simpa using e)
    exact ⟨d, by simpa using h1, h2⟩
theorem RpL.getD : ∀ {vs : List V} {ds : List Dt} {i : Nat} {d : Dt}, RpL K F fi vs ds → ds[i]? = some d → ∃ v, vs[i]? = some v ∧ Rp K F fi v d
  | _, _, _, _, .nil, e => by simp at e
  | _, _, 0, _, .cons h _, e => by simp at e; subst e; exact ⟨_, rfl, h⟩
  | _, _, i + 1, _, .cons _ r, e => by
    obtain ⟨d, h1, h2⟩ := RpL.getD (i := i) r (by simpa using e)
    exact ⟨d, by simpa using h1, h2⟩
theorem RpL.take (n : Nat) : ∀ {vs : List V} {ds : List Dt}, RpL K F fi vs ds → RpL K F fi (vs.take n) (ds.take n) := by
  induction n with
  | zero => intro vs ds _; exact .nil
  | succ n ih => intro vs ds h; cases h with
    | nil => exact .nil
    | cons h r => exact .cons h (ih r)
theorem RpL.drop (n : Nat) : ∀ {vs : List V} {ds : List Dt}, RpL K F fi vs ds → RpL K F fi (vs.drop n) (ds.drop n) := by
  induction n with
  | zero => intro vs ds h; exact h
  | succ n ih => intro vs ds h; cases h with
    | nil => exact .nil
    | cons h r => exact ih r
theorem RpL.set {v : V} {d : Dt} (h : Rp K F fi v d) (n : Nat) : ∀ {vs : List V} {ds : List Dt}, RpL K F fi vs ds → RpL K F fi (vs.set n v) (ds.set n d) := by
  induction n with
  | zero => intro vs ds r; cases r with
    | nil => exact .nil
    | cons _ r => exact .cons h r
  | succ n ih => intro vs ds r; cases r with
    | nil => exact .nil
    | cons q r => exact .cons q (ih r)
/-- ints -/
theorem RpL.ints : ∀ {vs : List V} {ns : List Int}, RpL K F fi vs (ns.map Dt.int) → vs = ns.map V.int
  | _, [], .nil => rfl
  | _, n :: r, .cons h t => by
    cases h
    rw [RpL.ints t]
    rfl
theorem RpL.of_ints : ∀ (ns : List Int), RpL K F fi (ns.map V.int) (ns.map Dt.int)
  | [] => .nil
  | n :: r => .cons (.int n) (RpL.of_ints r)
theorem RpL.strs : ∀ {vs : List V} {ns : List Str}, RpL K F fi vs (ns.map Dt.str) → vs = ns.map V.str
  | _, [], .nil => rfl
  | _, n :: r, .cons h t => by
    cases h
    rw [RpL.strs t]
    rfl
end

/-- what stands at an object's address -/
def Ob (K : PySem.W.Frag) (F : Hp) (fi : List Addr) (H : Hp) (a : Addr) : Dt → Prop
  | .lst ds => ∃ vs, H a = some (.lst vs) ∧ RpL K F fi vs ds
  | .dic t ks ds => ∃ u ka vs, H a = some u ∧ DkO t a u ks ka vs ∧ RpL K F fi ka ks ∧ RpL K F fi vs ds
  | _ => False
theorem Ob.mono {K : PySem.W.Frag} {F F' H H' : Hp} {fi fi' : List Addr} {a : Addr} {m : Dt} (s : Sub F F') (p : fi <+: fi') (e : H' a = H a) (h : Ob K F fi H a m) : Ob K F' fi' H' a m := by
  cases m with
  | lst ds =>
    obtain ⟨vs, h1, h2⟩ := h
    exact ⟨vs, e.trans h1, h2.mono s p⟩
  | dic t ks ds =>
    obtain ⟨u, ka, vs, h1, h2, h3, h4⟩ := h
    exact ⟨u, ka, vs, e.trans h1, h2, h3.mono s p, h4.mono s p⟩
  | _ => exact h.elim

/-- what a slot is known to hold: nothing known, data, an object of its own (a list that may be changed) -/
inductive Cell where
  | no | val (d : Dt) | own (m : Dt)

/-- each code object that the table at p tells is known, and bears the name of its lambdas -/
def LamOk (T : Tbs) (F : Hp) (p : Addr) (ps : Array Value) : Prop := ∀ q, T.q p = some q → ∀ (pos : Pos) (cv : Value), codeAmong pos ps.toList = some cv → ∃ c, cv = .ref c ∧ F c = some (LamX.CodeO c q)
theorem LamOk.mono {T : Tbs} {F F' : Hp} {p : Addr} {ps : Array Value} (s : Sub F F') (h : LamOk T F p ps) : LamOk T F' p ps := fun q hq pos cv hc => by
  obtain ⟨c, e1, e2⟩ := h q hq pos cv hc
  exact ⟨c, e1, s _ _ e2⟩
/-- the table at p -/
def TabQ (T : Tbs) (F H : Hp) (p : Addr) : Prop := ∃ ps : Array Value, H p = some (.tbl ps) ∧ TriplesOk ps.toList ∧ LamOk T F p ps
theorem TabQ.tab {T : Tbs} {F H : Hp} {p : Addr} (h : TabQ T F H p) : GxR.TabG H p := by
  obtain ⟨ps, h1, h2, _⟩ := h
  exact ⟨ps, h1, h2⟩
/-- the entry: what stays, the heap, the shared objects -/
structure Bs where
  F : Hp
  H : Hp
  fi : List Addr
/-- the state: F stays; fi: where the shared objects mu stand; sg: the slots -/
structure DE (K : PySem.W.Frag) (T : Tbs) (B : Bs) (F : Hp) (fi : List Addr) (sg : L2.St) (H : Hp) (G : List Cell) (mu : List Dt) : Prop where
  sub : Sub F H
  tab : ∀ p ∈ T, F p = none ∧ TabQ T F H p
  len : sg.length = G.length
  lenm : fi.length = mu.length
  slot : ∀ (i : Nat) (d : Dt), G[i]? = some (.val d) → ∃ v, sg[i]? = some (some v) ∧ Rp K F fi v d
  own : ∀ (i : Nat) (m : Dt), G[i]? = some (.own m) → ∃ p, sg[i]? = some (some (.ref p)) ∧ F p = none ∧ Ob K F fi H p m ∧ B.H p = none
  obj : ∀ (j : Nat) (a : Addr) (m : Dt), fi[j]? = some a → mu[j]? = some m → F a = none ∧ Ob K F fi H a m
  oo : ∀ (i j : Nat) (m n : Dt) (p : Addr), G[i]? = some (.own m) → G[j]? = some (.own n) → sg[i]? = some (some (.ref p)) → sg[j]? = some (some (.ref p)) → i = j
  om : ∀ (i : Nat) (m : Dt) (p : Addr) (j : Nat), G[i]? = some (.own m) → sg[i]? = some (some (.ref p)) → fi[j]? ≠ some p
  mm : fi.Nodup
  frame : ∀ (a : Addr) (o : HO), B.H a = some o → a ∉ B.fi → a ∉ T → H a = some o
  fold : ∀ a ∈ B.fi, a ∈ fi
  fpre : ∀ a ∈ fi, a ∈ B.fi ∨ B.H a = none
  fnew : ∀ (a : Addr) (o : HO), F a = some o → B.F a = some o ∨ B.H a = none

/-- what an expression gives: data; a new object, nobody else's; the object of the i-th slot, lent -/
inductive Res where
  | dat (d : Dt) | new (m : Dt) | bor (i : Nat)
def RpR (K : PySem.W.Frag) (B : Bs) (F : Hp) (fi : List Addr) (sg : L2.St) (H : Hp) (G : List Cell) (v : V) : Res → Prop
  | .dat d => Rp K F fi v d
  | .new m => ∃ p, v = .ref p ∧ F p = none ∧ Ob K F fi H p m ∧ (∀ (i : Nat) (n : Dt), G[i]? = some (.own n) → sg[i]? ≠ some (some (.ref p))) ∧ (∀ j : Nat, fi[j]? ≠ some p) ∧ B.H p = none
  | .bor i => sg[i]? = some (some v) ∧ ∃ m, G[i]? = some (.own m)
/-- as it is held while more is evaluated -/
def Res.hold : Res → Res
  | .new m => .dat m
  | r => r
/-- the data that it shows -/
def look (G : List Cell) : Res → Option Dt
  | .dat d => some d
  | .new m => some m
  | .bor i => match G[i]? with
    | some (.own m) => some m
    | _ => none
/-- v shows the data d, for now -/
def Vw (K : PySem.W.Frag) (F : Hp) (fi : List Addr) (H : Hp) (v : V) (d : Dt) : Prop := Rp K F fi v d ∨ ∃ p, v = .ref p ∧ Ob K F fi H p d

section
variable {K : PySem.W.Frag} {T : Tbs} {B : Bs} {F F' : Hp} {fi fi' : List Addr} {sg : L2.St} {H H' : Hp} {G : List Cell} {mu mu' : List Dt} {v : V} {r : Res} {d m : Dt}
theorem DE.tabne (e : DE K T B F fi sg H G mu) {p : Addr} {o : HO} (h : H p = some o) (n : ∀ q, o ≠ .tbl q) : p ∉ T := fun z => by
  obtain ⟨_, ps, h2, _⟩ := e.tab p z
  rw [h] at h2
  cases h2
  exact n _ rfl
/-- more stays: a new address -/
theorem DE.grow (e : DE K T B F fi sg H G mu) {p : Addr} {o : HO} (h : H p = some o) (hF : F p = none) (hB : B.H p = none) (n : ∀ q, o ≠ .tbl q) (h1 : ∀ (i : Nat) (n : Dt), G[i]? = some (.own n) → sg[i]? ≠ some (some (.ref p))) (h2 : ∀ j : Nat, fi[j]? ≠ some p) :
    DE K T B (upd F p o) fi sg H G mu where
  sub := fun a u q => by
    by_cases z : a = p
    · subst z
      rw [upd_same] at q
      cases q
      exact h
    · rw [upd_ne z] at q
      exact e.sub a u q
  tab := fun q hq => by
    have z : q ≠ p := fun y => e.tabne h n (by rw [← y]; exact hq)
    obtain ⟨g1, ps, g2, g3, g4⟩ := e.tab q hq
    rw [upd_ne z]
    exact ⟨g1, ps, g2, g3, g4.mono (Sub.new hF)⟩
  len := e.len
  lenm := e.lenm
  slot := fun i d q => let ⟨v, a, b⟩ := e.slot i d q; ⟨v, a, b.mono (Sub.new hF) (List.prefix_refl _)⟩
  own := fun i m q => by
    obtain ⟨a, b, c, d, hn⟩ := e.own i m q
    have z : a ≠ p := fun y => h1 i m q (by rw [← y]; exact b)
    exact ⟨a, b, by rw [upd_ne z]; exact c, d.mono (Sub.new hF) (List.prefix_refl _) rfl, hn⟩
  obj := fun j a m q y => by
    obtain ⟨b, c⟩ := e.obj j a m q y
    have z : a ≠ p := fun y => h2 j (by rw [← y]; exact q)
    exact ⟨by rw [upd_ne z]; exact b, c.mono (Sub.new hF) (List.prefix_refl _) rfl⟩
  oo := e.oo
  om := e.om
  mm := e.mm
  frame := e.frame
  fold := e.fold
  fpre := e.fpre
  fnew := fun a u q => by
    by_cases z : a = p
    · subst z
      exact .inr hB
    · rw [upd_ne z] at q
      exact e.fnew a u q
/-- a new object is given up: from now on it stays -/
theorem DE.freeze (e : DE K T B F fi sg H G mu) (h : RpR K B F fi sg H G v (.new m)) : ∃ F', Sub F F' ∧ DE K T B F' fi sg H G mu ∧ Rp K F' fi v m := by
  obtain ⟨p, rfl, hF, ho, h1, h2, hB⟩ := h
  cases m with
  | lst ds =>
    obtain ⟨vs, hp, hr⟩ := ho
    refine ⟨upd F p (.lst vs), Sub.new hF, e.grow hp hF hB (fun q z => by cases z) h1 h2, ?_⟩
    exact .lst upd_same (hr.mono (Sub.new hF) (List.prefix_refl _))
  | dic t ks ds =>
    obtain ⟨u, ka, vs, hp, hk, hq, hr⟩ := ho
    refine ⟨upd F p u, Sub.new hF, e.grow hp hF hB hk.notTbl h1 h2, ?_⟩
    exact .dic upd_same hk (hq.mono (Sub.new hF) (List.prefix_refl _)) (hr.mono (Sub.new hF) (List.prefix_refl _))
  | _ => exact ho.elim
/-- held -/
theorem DE.hold (e : DE K T B F fi sg H G mu) (h : RpR K B F fi sg H G v r) : ∃ F', Sub F F' ∧ DE K T B F' fi sg H G mu ∧ RpR K B F' fi sg H G v r.hold := by
  cases r with
  | dat d => exact ⟨F, Sub.refl F, e, h⟩
  | new m => exact e.freeze h
  | bor i => exact ⟨F, Sub.refl F, e, h⟩
theorem RpR.keep (s : Sub F F') (p : fi <+: fi') (h : RpR K B F fi sg H G v r.hold) : RpR K B F' fi' sg H' G v r.hold := by
  cases r with
  | dat d => exact Rp.mono s p h
  | new m => exact Rp.mono s p h
  | bor i => exact h
theorem look_hold : look G r.hold = look G r := by cases r <;> rfl
theorem DE.view (e : DE K T B F fi sg H G mu) (h : RpR K B F fi sg H G v r) (l : look G r = some d) : Vw K F fi H v d := by
  cases r with
  | dat d' => cases l; exact .inl h
  | new m =>
    cases l
    obtain ⟨p, rfl, _, ho, _⟩ := h
    exact .inr ⟨p, rfl, ho⟩
  | bor i =>
    obtain ⟨h1, m, h2⟩ := h
    have l2 : (match G[i]? with | some (.own m) => some m | _ => none) = some d := l
    rw [h2] at l2
    cases l2
    obtain ⟨p, h3, _, h4, _⟩ := e.own i _ h2
    rw [h1] at h3
    cases h3
    exact .inr ⟨p, rfl, h4⟩
theorem DE.viewH (e : DE K T B F fi sg H G mu) (h : RpR K B F fi sg H G v r.hold) (l : look G r = some d) : Vw K F fi H v d := e.view (r := r.hold) h (by rw [look_hold]; exact l)
theorem Vw.int {i : Int} (h : Vw K F fi H v (.int i)) : v = .int i := by
  rcases h with h | ⟨p, _, h⟩
  · cases h; rfl
  · exact h.elim
theorem Vw.bl {b : Bool} (h : Vw K F fi H v (.bl b)) : v = .bl b := by
  rcases h with h | ⟨p, _, h⟩
  · cases h; rfl
  · exact h.elim
theorem Vw.str {x : Str} (h : Vw K F fi H v (.str x)) : v = .str x := by
  rcases h with h | ⟨p, _, h⟩
  · cases h; rfl
  · exact h.elim
theorem Vw.non (h : Vw K F fi H v .non) : v = .non := by
  rcases h with h | ⟨p, _, h⟩
  · cases h; rfl
  · exact h.elim
theorem Vw.tup (s : Sub F H) {ds : List Dt} (h : Vw K F fi H v (.tup ds)) : ∃ a vs, v = .ref a ∧ F a = some (.tup vs) ∧ H a = some (.tup vs) ∧ RpL K F fi vs ds := by
  rcases h with h | ⟨p, _, h⟩
  · cases h with
    | tup h r => exact ⟨_, _, rfl, h, s _ _ h, r⟩
  · exact h.elim
theorem Vw.lst (s : Sub F H) {ds : List Dt} (h : Vw K F fi H v (.lst ds)) : ∃ a vs, v = .ref a ∧ H a = some (.lst vs) ∧ RpL K F fi vs ds := by
  rcases h with h | ⟨p, rfl, vs, h, r⟩
  · cases h with
    | lst h r => exact ⟨_, _, rfl, s _ _ h, r⟩
  · exact ⟨p, vs, rfl, h, r⟩
theorem Vw.dic (s : Sub F H) {t : Bool} {ks ds : List Dt} (h : Vw K F fi H v (.dic t ks ds)) : ∃ a u ka vs, v = .ref a ∧ H a = some u ∧ DkO t a u ks ka vs ∧ RpL K F fi ka ks ∧ RpL K F fi vs ds := by
  rcases h with h | ⟨p, rfl, u, ka, vs, h, k, q, r⟩
  · cases h with
    | dic h k q r => exact ⟨_, _, _, _, rfl, s _ _ h, k, q, r⟩
  · exact ⟨p, u, ka, vs, rfl, h, k, q, r⟩
end

/-! ### readings -/
/-- an expression: the state G, mu; it gives r, the shared objects are then mu' -/
def rd (K : PySem.W.Frag) (T : Tbs) (G : List Cell) (mu : List Dt) (r : Res) (mu' : List Dt) : TE := fun sg H Q =>
  ∃ B F fi, DE K T B F fi sg H G mu ∧ ∀ v F' fi' H', Sub F F' → fi <+: fi' → DE K T B F' fi' sg H' G mu' → RpR K B F' fi' sg H' G v r → Q v H'
abbrev EvD (T : Tbs) (X : Cx) (G : List Cell) (mu : List Dt) (e : Expr) (r : Res) (mu' : List Dt) : Prop := PE X e (rd X.K T G mu r mu')
/-- a test -/
def rdT (K : PySem.W.Frag) (T : Tbs) (G : List Cell) (mu : List Dt) (b : Bool) (mu' : List Dt) : TT := fun sg H Q =>
  ∃ B F fi, DE K T B F fi sg H G mu ∧ ∀ F' fi' H', Sub F F' → fi <+: fi' → DE K T B F' fi' sg H' G mu' → Q b H'
abbrev EvT (T : Tbs) (X : Cx) (G : List Cell) (mu : List Dt) (e : Expr) (b : Bool) (mu' : List Dt) : Prop := PT X e (rdT X.K T G mu b mu')
/-- arguments -/
inductive RpRs (K : PySem.W.Frag) (B : Bs) (F : Hp) (fi : List Addr) (sg : L2.St) (H : Hp) (G : List Cell) : List V → List Res → Prop
  | nil : RpRs K B F fi sg H G [] []
  | cons {v : V} {r : Res} {vs : List V} {rs : List Res} : RpR K B F fi sg H G v r.hold → RpRs K B F fi sg H G vs rs → RpRs K B F fi sg H G (v :: vs) (r :: rs)
def rdA (K : PySem.W.Frag) (T : Tbs) (G : List Cell) (mu : List Dt) (rs : List Res) (mu' : List Dt) : TA := fun sg H Q =>
  ∃ B F fi, DE K T B F fi sg H G mu ∧ ∀ vs F' fi' H', Sub F F' → fi <+: fi' → DE K T B F' fi' sg H' G mu' → RpRs K B F' fi' sg H' G vs rs → Q vs H'
abbrev EvA (T : Tbs) (X : Cx) (G : List Cell) (mu : List Dt) (es : List Expr) (rs : List Res) (mu' : List Dt) : Prop := PA X es (rdA X.K T G mu rs mu')
/-- a statement's end -/
inductive SOut where
  | nx (G : List Cell) (mu : List Dt)
  | ret (r : Res) (mu : List Dt)
  | brk (G : List Cell) (mu : List Dt)
  | ct (G : List Cell) (mu : List Dt)
  | exc (C : Addr) (fs : List (Str × Dt)) (mu : List Dt)
/-- an exception's own dict -/
def Xd (K : PySem.W.Frag) (F : Hp) (fi : List Addr) (H : Hp) : Option Addr → List (Str × Dt) → Prop
  | none, fs => fs = []
  | some d, fs => ∃ vs, H d = some (.xd (List.zip (fs.map (·.1)) vs)) ∧ RpL K F fi vs (fs.map (·.2))
def postS (K : PySem.W.Frag) (T : Tbs) (W : WX) (B : Bs) (F : Hp) (fi : List Addr) (D : Ends) : SOut → Prop
  | .nx G mu => ∀ F' fi' sg' H', Sub F F' → fi <+: fi' → DE K T B F' fi' sg' H' G mu → D.nx sg' H'
  | .ret r mu => ∀ v F' fi' H', Sub F F' → fi <+: fi' → DE K T B F' fi' [] H' [] mu → RpR K B F' fi' [] H' [] v r → D.rt v H'
  | .brk G mu => ∀ F' fi' sg' H', Sub F F' → fi <+: fi' → DE K T B F' fi' sg' H' G mu → D.bk sg' H'
  | .ct G mu => ∀ F' fi' sg' H', Sub F F' → fi <+: fi' → DE K T B F' fi' sg' H' G mu → D.ct sg' H'
  | .exc C fs mu => ∀ d F' fi' sg' H', Sub F F' → fi <+: fi' → DE K T B F' fi' [] H' [] mu → Xd K F' fi' H' d fs → W (.ref C) d sg' H'
def rdS (K : PySem.W.Frag) (T : Tbs) (W : WX) (G : List Cell) (mu : List Dt) (o : SOut) : TS := fun D sg H =>
  ∃ B F fi, DE K T B F fi sg H G mu ∧ postS K T W B F fi D o
abbrev SD (T : Tbs) (X : Cx) (W : WX) (G : List Cell) (mu : List Dt) (st : Stmt) (o : SOut) : Prop := PS X st (rdS X.K T W G mu o)
abbrev SDs (T : Tbs) (X : Cx) (W : WX) (G : List Cell) (mu : List Dt) (st : List Stmt) (o : SOut) : Prop := PSs X st (rdS X.K T W G mu o)

/-! ### a weaker reading -/
section
variable {X : Cx}
theorem pe_imp {e : Expr} {t t' : TE} (h : PE X e t) (i : ∀ sg H Q, t' sg H Q → t sg H Q) : PE X e t' := ⟨fun pins s sg H Q I q => h.run pins s sg H Q I (i sg H Q q)⟩
theorem pt_imp {e : Expr} {t t' : TT} (h : PT X e t) (i : ∀ sg H Q, t' sg H Q → t sg H Q) : PT X e t' := ⟨fun pins s sg H Q I q => h.run pins s sg H Q I (i sg H Q q)⟩
theorem pa_imp {e : List Expr} {t t' : TA} (h : PA X e t) (i : ∀ sg H Q, t' sg H Q → t sg H Q) : PA X e t' := ⟨fun pos pins s sg H Q I q => h.run pos pins s sg H Q I (i sg H Q q)⟩
theorem ps_imp {e : Stmt} {t t' : TS} (h : PS X e t) (i : ∀ D sg H, t' D sg H → t D sg H) : PS X e t' := ⟨fun pins s sg H D I q => h.run pins s sg H D I (i D sg H q)⟩
theorem pss_imp {e : List Stmt} {t t' : TS} (h : PSs X e t) (i : ∀ D sg H, t' D sg H → t D sg H) : PSs X e t' := ⟨fun pins s sg H D I q => h.run pins s sg H D I (i D sg H q)⟩
theorem pe_any {α : Type} {p : α → Prop} {e : Expr} {t : α → TE} (h : ∀ a, p a → PE X e (t a)) : PE X e (fun sg H Q => ∃ a, p a ∧ t a sg H Q) := ⟨fun pins s sg H Q I ⟨a, ha, q⟩ => (h a ha).run pins s sg H Q I q⟩
theorem pt_any {α : Type} {p : α → Prop} {e : Expr} {t : α → TT} (h : ∀ a, p a → PT X e (t a)) : PT X e (fun sg H Q => ∃ a, p a ∧ t a sg H Q) := ⟨fun pins s sg H Q I ⟨a, ha, q⟩ => (h a ha).run pins s sg H Q I q⟩
theorem pss_any {α : Type} {p : α → Prop} {e : List Stmt} {t : α → TS} (h : ∀ a, p a → PSs X e (t a)) : PSs X e (fun D sg H => ∃ a, p a ∧ t a D sg H) := ⟨fun pins s sg H D I ⟨a, ha, q⟩ => (h a ha).run pins s sg H D I q⟩
end
end Dl

set_option Elab.async false
set_option linter.all false
set_option maxRecDepth 100000
set_option maxHeartbeats 4000000
/-! Dl2: names, constants, operators, displays. -/
namespace Dl
open PySem PySem.Spec PyProof.Rows L2
section
variable {K : PySem.W.Frag} {T : Tbs} {B : Bs} {F F' : Hp} {fi fi' : List Addr} {sg : L2.St} {H H' : Hp} {G : List Cell} {mu mu1 mu2 mu' : List Dt} {v : V} {r r1 r2 : Res} {d m : Dt}
theorem Ob.some {a : Addr} (h : Ob K F fi H a m) : ∃ o, H a = some o ∧ ∀ q, o ≠ .tbl q := by
  cases m with
  | lst ds =>
    obtain ⟨vs, h1, _⟩ := h
    exact ⟨_, h1, fun q z => by cases z⟩
  | dic t ks ds =>
    obtain ⟨u, ka, vs, h1, h2, _⟩ := h
    exact ⟨u, h1, h2.notTbl⟩
  | _ => exact h.elim
/-- what stood at the entry stands -/
theorem DE.old (e : DE K T B F fi sg H G mu) {a : Addr} (h : H a = none) : B.H a = none := by
  cases q : B.H a with
  | none => rfl
  | some o =>
    by_cases h1 : a ∈ B.fi
    · obtain ⟨j, hj, ej⟩ := List.getElem_of_mem (e.fold a h1)
      have hj2 : j < mu.length := by rw [← e.lenm]; exact hj
      have h2 : fi[j]? = some a := by rw [List.getElem?_eq_getElem hj, ej]
      obtain ⟨_, ho⟩ := e.obj j a _ h2 (List.getElem?_eq_getElem hj2)
      obtain ⟨u, hu, _⟩ := ho.some
      rw [h] at hu
      cases hu
    · by_cases h2 : a ∈ T
      · obtain ⟨_, ps, h3, _⟩ := e.tab a h2
        rw [h] at h3
        cases h3
      · have h3 := e.frame a o q h1 h2
        rw [h] at h3
        cases h3
theorem DE.put (e : DE K T B F fi sg H G mu) {p : Addr} (hp : H p = none) (o : HO) :
    DE K T B F fi sg (upd H p o) G mu ∧ F p = none ∧ (∀ (i : Nat) (n : Dt), G[i]? = some (.own n) → sg[i]? ≠ some (some (.ref p))) ∧ (∀ j : Nat, fi[j]? ≠ some p) ∧ B.H p = none := by
  have hF : F p = none := by
    cases q : F p with
    | none => rfl
    | some u =>
      have := e.sub p u q
      rw [hp] at this
      cases this
  have key : ∀ {a : Addr} {m : Dt}, Ob K F fi H a m → a ≠ p := fun {a m} h z => by
    obtain ⟨o, h1, _⟩ := h.some
    rw [z, hp] at h1
    cases h1
  refine ⟨⟨fun a u q => ?_, fun q hq => ?_, e.len, e.lenm, e.slot, fun i m q => ?_, fun j a m q y => ?_, e.oo, e.om, e.mm, fun a u q h1 h2 => ?_, e.fold, e.fpre, e.fnew⟩, hF, fun i n q z => ?_, fun j z => ?_, e.old hp⟩
  · have h1 := e.sub a u q
    rw [upd_ne (ne_of_none h1 hp)]
    exact h1
  · obtain ⟨h1, ps, h2, h3⟩ := e.tab q hq
    exact ⟨h1, ps, by rw [upd_ne (ne_of_none h2 hp)]; exact h2, h3⟩
  · obtain ⟨a, b, c, d, f⟩ := e.own i m q
    exact ⟨a, b, c, d.mono (Sub.refl F) (List.prefix_refl _) (upd_ne (key d)), f⟩
  · obtain ⟨b, c⟩ := e.obj j a m q y
    exact ⟨b, c.mono (Sub.refl F) (List.prefix_refl _) (upd_ne (key c))⟩
  · have h3 := e.frame a u q h1 h2
    rw [upd_ne (ne_of_none h3 hp)]
    exact h3
  · obtain ⟨a, b, c, d, f⟩ := e.own i n q
    rw [b] at z
    cases z
    exact key d rfl
  · have hj : j < mu.length := by
      rw [← e.lenm]
      exact (List.getElem?_eq_some_iff.mp z).1
    obtain ⟨b, c⟩ := e.obj j p _ z (List.getElem?_eq_getElem hj)
    exact key c rfl
/-- a new list -/
theorem DE.newL (e : DE K T B F fi sg H G mu) {p : Addr} (hp : H p = none) {vs : List V} {ds : List Dt} (h : RpL K F fi vs ds) :
    DE K T B F fi sg (upd H p (.lst vs)) G mu ∧ RpR K B F fi sg (upd H p (.lst vs)) G (.ref p) (.new (.lst ds)) := by
  obtain ⟨h1, h2, h3, h4, h5⟩ := e.put hp (.lst vs)
  exact ⟨h1, p, rfl, h2, ⟨vs, upd_same, h⟩, h3, h4, h5⟩
/-- a new tuple -/
theorem DE.newT (e : DE K T B F fi sg H G mu) {p : Addr} (hp : H p = none) {vs : List V} {ds : List Dt} (h : RpL K F fi vs ds) :
    ∃ F', Sub F F' ∧ DE K T B F' fi sg (upd H p (.tup vs)) G mu ∧ Rp K F' fi (.ref p) (.tup ds) := by
  obtain ⟨h1, h2, h3, h4, h5⟩ := e.put hp (.tup vs)
  exact ⟨_, Sub.new h2, h1.grow upd_same h2 h5 (fun q z => by cases z) h3 h4, .tup upd_same (h.mono (Sub.new h2) (List.prefix_refl _))⟩
end

/-! ### two operands -/
section
variable {T : Tbs} {X : Cx} {G : List Cell} {mu mu1 mu2 : List Dt} {r r1 r2 : Res} {a b e : Expr} {pos : Pos}
/-- what an operation by values must do with the two operands -/
def Op2 (K : PySem.W.Frag) (T : Tbs) (G : List Cell) (mu : List Dt) (r1 r2 r : Res) (rr : R2) : Prop :=
  ∀ B F fi sg H v u Q, DE K T B F fi sg H G mu → RpR K B F fi sg H G v r1.hold → RpR K B F fi sg H G u r2.hold →
    (∀ w F' fi' H', Sub F F' → fi <+: fi' → DE K T B F' fi' sg H' G mu → RpR K B F' fi' sg H' G w r → Q w H') → rr v u H Q
theorem rd_op {rr : R2} (k : Op2 X.K T G mu2 r1 r2 r rr) : ∀ sg H Q, rd X.K T G mu r mu2 sg H Q → tOp rr (rd X.K T G mu r1 mu1) (rd X.K T G mu1 r2 mu2) sg H Q := by
  rintro sg H Q ⟨B, F, fi, e, q⟩
  refine ⟨B, F, fi, e, fun v F1 fi1 H1 s1 p1 e1 h1 => ?_⟩
  obtain ⟨F1', s1', e1', h1'⟩ := e1.hold h1
  refine ⟨B, F1', fi1, e1', fun u F2 fi2 H2 s2 p2 e2 h2 => ?_⟩
  obtain ⟨F2', s2', e2', h2'⟩ := e2.hold h2
  exact k B F2' fi2 sg H2 v u Q e2' (h1'.keep (s2.trans s2') p2) h2' fun w F' fi' H' s p e' hw => q w F' fi' H' ((((s1.trans s1').trans s2).trans s2').trans s) ((p1.trans p2).trans p) e' hw
theorem ev_bin {op : Operator} {rr : R2} (ho : OpR X (binaryOp op) rr) (k : Op2 X.K T G mu2 r1 r2 r rr) (ha : EvD T X G mu a r1 mu1) (hb : EvD T X G mu1 b r2 mu2) : EvD T X G mu (.BinOp a op b pos) r mu2 :=
  pe_imp (pe_op ho ha hb) (rd_op k)
theorem ev_cmp {op : CmpOp} {rr : R2} (ho : OpR X (compareOp op) rr) (k : Op2 X.K T G mu2 r1 r2 r rr) (hm : behindInMarks op b = false) (ha : EvD T X G mu a r1 mu1) (hb : EvD T X G mu1 b r2 mu2) : EvD T X G mu (.Compare a [op] [b] pos) r mu2 :=
  pe_imp (pe_cmpR ho ha hb hm) (rd_op k)
/-- a value that leaves the heap as it is -/
theorem op2_val {rr : R2} {d d1 d2 : Dt} (l1 : look G r1 = some d1) (l2 : look G r2 = some d2) (h : ∀ F fi H v u Q, Sub F H → Vw X.K F fi H v d1 → Vw X.K F fi H u d2 → (∀ w, Rp X.K F fi w d → Q w H) → rr v u H Q) : Op2 X.K T G mu r1 r2 (.dat d) rr :=
  fun B F fi sg H v u Q e h1 h2 q => h F fi H v u Q e.sub (e.viewH h1 l1) (e.viewH h2 l2) fun w hw => q w F fi H (Sub.refl F) (List.prefix_refl _) e hw
/-- an int, a bool of two ints -/
theorem op2_int {g : Int → Int → V} {d : Dt} {C : Int → Int → Prop} {i j : Int} (l1 : look G r1 = some (.int i)) (l2 : look G r2 = some (.int j)) (hc : C i j) (hd : ∀ F fi, Rp X.K F fi (g i j) d) : Op2 X.K T G mu r1 r2 (.dat d) (rI C g) :=
  op2_val l1 l2 fun F fi H v u Q _ h1 h2 q => ⟨i, j, h1.int, h2.int, hc, q _ (hd F fi)⟩
theorem op2_int0 {g : Int → Int → V} {d : Dt} {i j : Int} (l1 : look G r1 = some (.int i)) (l2 : look G r2 = some (.int j)) (hd : ∀ F fi, Rp X.K F fi (g i j) d) : Op2 X.K T G mu r1 r2 (.dat d) (rI0 g) :=
  op2_val l1 l2 fun F fi H v u Q _ h1 h2 q => ⟨i, j, h1.int, h2.int, q _ (hd F fi)⟩
variable {i j : Int}
theorem ev_add (ha : EvD T X G mu a r1 mu1) (hb : EvD T X G mu1 b r2 mu2) (l1 : look G r1 = some (.int i) := by rfl) (l2 : look G r2 = some (.int j) := by rfl) : EvD T X G mu (.BinOp a .Add b pos) (.dat (.int (i + j))) mu2 :=
  ev_bin op_add (op2_int0 l1 l2 fun _ _ => .int _) ha hb
theorem ev_sub (ha : EvD T X G mu a r1 mu1) (hb : EvD T X G mu1 b r2 mu2) (l1 : look G r1 = some (.int i) := by rfl) (l2 : look G r2 = some (.int j) := by rfl) : EvD T X G mu (.BinOp a .Sub b pos) (.dat (.int (i - j))) mu2 :=
  ev_bin op_sub (op2_int0 l1 l2 fun _ _ => .int _) ha hb
theorem ev_mul (ha : EvD T X G mu a r1 mu1) (hb : EvD T X G mu1 b r2 mu2) (hc : CMul i j) (l1 : look G r1 = some (.int i) := by rfl) (l2 : look G r2 = some (.int j) := by rfl) : EvD T X G mu (.BinOp a .Mult b pos) (.dat (.int (i * j))) mu2 :=
  ev_bin op_mul (op2_int l1 l2 hc fun _ _ => .int _) ha hb
theorem ev_mod (ha : EvD T X G mu a r1 mu1) (hb : EvD T X G mu1 b r2 mu2) (hc : 0 < j) (l1 : look G r1 = some (.int i) := by rfl) (l2 : look G r2 = some (.int j) := by rfl) : EvD T X G mu (.BinOp a .Mod b pos) (.dat (.int (i % j))) mu2 :=
  ev_bin op_mod (op2_int l1 l2 hc fun _ _ => .int _) ha hb
theorem ev_fdiv (ha : EvD T X G mu a r1 mu1) (hb : EvD T X G mu1 b r2 mu2) (hc : CDiv i j) (l1 : look G r1 = some (.int i) := by rfl) (l2 : look G r2 = some (.int j) := by rfl) : EvD T X G mu (.BinOp a .FloorDiv b pos) (.dat (.int (i / j))) mu2 :=
  ev_bin op_fdiv (op2_int l1 l2 hc fun _ _ => .int _) ha hb
theorem ev_pow (ha : EvD T X G mu a r1 mu1) (hb : EvD T X G mu1 b r2 mu2) (hc : CPow i j) (l1 : look G r1 = some (.int i) := by rfl) (l2 : look G r2 = some (.int j) := by rfl) : EvD T X G mu (.BinOp a .Pow b pos) (.dat (.int (i ^ j.toNat))) mu2 :=
  ev_bin op_pow (op2_int l1 l2 hc fun _ _ => .int _) ha hb
theorem ev_lt (ha : EvD T X G mu a r1 mu1) (hb : EvD T X G mu1 b r2 mu2) (l1 : look G r1 = some (.int i) := by rfl) (l2 : look G r2 = some (.int j) := by rfl) : EvD T X G mu (.Compare a [.Lt] [b] pos) (.dat (.bl (decide (i < j)))) mu2 :=
  ev_cmp op_lt (op2_int0 l1 l2 fun _ _ => .bl _) (nomark _) ha hb
theorem ev_le (ha : EvD T X G mu a r1 mu1) (hb : EvD T X G mu1 b r2 mu2) (l1 : look G r1 = some (.int i) := by rfl) (l2 : look G r2 = some (.int j) := by rfl) : EvD T X G mu (.Compare a [.LtE] [b] pos) (.dat (.bl (decide (i ≤ j)))) mu2 :=
  ev_cmp op_le (op2_int0 l1 l2 fun _ _ => .bl _) (nomark _) ha hb
theorem ev_gt (ha : EvD T X G mu a r1 mu1) (hb : EvD T X G mu1 b r2 mu2) (l1 : look G r1 = some (.int i) := by rfl) (l2 : look G r2 = some (.int j) := by rfl) : EvD T X G mu (.Compare a [.Gt] [b] pos) (.dat (.bl (decide (j < i)))) mu2 :=
  ev_cmp op_gt (op2_int0 l1 l2 fun _ _ => .bl _) (nomark _) ha hb
theorem ev_ge (ha : EvD T X G mu a r1 mu1) (hb : EvD T X G mu1 b r2 mu2) (l1 : look G r1 = some (.int i) := by rfl) (l2 : look G r2 = some (.int j) := by rfl) : EvD T X G mu (.Compare a [.GtE] [b] pos) (.dat (.bl (decide (j ≤ i)))) mu2 :=
  ev_cmp op_ge (op2_int0 l1 l2 fun _ _ => .bl _) (nomark _) ha hb
theorem ev_eqI (ha : EvD T X G mu a r1 mu1) (hb : EvD T X G mu1 b r2 mu2) (l1 : look G r1 = some (.int i) := by rfl) (l2 : look G r2 = some (.int j) := by rfl) : EvD T X G mu (.Compare a [.Eq] [b] pos) (.dat (.bl (decide (i = j)))) mu2 :=
  ev_cmp op_eq (op2_val l1 l2 fun F fi H v u Q _ h1 h2 q => by
    rw [h1.int, h2.int]
    refine ⟨rfl, ?_⟩
    have e : decide (V.int i = V.int j) = decide (i = j) := by rw [dec_int, Bool.beq_eq_decide_eq]
    rw [e]
    exact q _ (.bl _)) (nomark _) ha hb
theorem ev_neI (ha : EvD T X G mu a r1 mu1) (hb : EvD T X G mu1 b r2 mu2) (l1 : look G r1 = some (.int i) := by rfl) (l2 : look G r2 = some (.int j) := by rfl) : EvD T X G mu (.Compare a [.NotEq] [b] pos) (.dat (.bl (!decide (i = j)))) mu2 :=
  ev_cmp op_ne (op2_val l1 l2 fun F fi H v u Q _ h1 h2 q => by
    rw [h1.int, h2.int]
    refine ⟨rfl, ?_⟩
    have e : decide (V.int i = V.int j) = decide (i = j) := by rw [dec_int, Bool.beq_eq_decide_eq]
    rw [e]
    exact q _ (.bl _)) (nomark _) ha hb
/-- texts -/
theorem ev_addS {x y : Str} (ha : EvD T X G mu a r1 mu1) (hb : EvD T X G mu1 b r2 mu2) (hc : x.length + y.length ≤ sizeLine) (l1 : look G r1 = some (.str x) := by rfl) (l2 : look G r2 = some (.str y) := by rfl) : EvD T X G mu (.BinOp a .Add b pos) (.dat (.str (x ++ y))) mu2 :=
  ev_bin op_add_str (op2_val l1 l2 fun F fi H v u Q _ h1 h2 q => ⟨x, y, h1.str, h2.str, hc, q _ (.str _)⟩) ha hb
theorem ev_eqS {x y : Str} (ha : EvD T X G mu a r1 mu1) (hb : EvD T X G mu1 b r2 mu2) (l1 : look G r1 = some (.str x) := by rfl) (l2 : look G r2 = some (.str y) := by rfl) : EvD T X G mu (.Compare a [.Eq] [b] pos) (.dat (.bl (decide (x = y)))) mu2 :=
  ev_cmp op_eq (op2_val l1 l2 fun F fi H v u Q _ h1 h2 q => by
    rw [h1.str, h2.str]
    refine ⟨rfl, ?_⟩
    have e : decide (V.str x = V.str y) = decide (x = y) := by rw [dec_str, Bool.beq_eq_decide_eq]
    rw [e]
    exact q _ (.bl _)) (nomark _) ha hb
/-- lists -/
theorem ev_addL {x y : List Dt} (ha : EvD T X G mu a r1 mu1) (hb : EvD T X G mu1 b r2 mu2) (h3 : x.length + y.length ≤ sizeLine) (l1 : look G r1 = some (.lst x) := by rfl) (l2 : look G r2 = some (.lst y) := by rfl) :
    EvD T X G mu (.BinOp a .Add b pos) (.new (.lst (x ++ y))) mu2 := by
  refine ev_bin op_cat (fun B F fi sg H v u Q e g1 g2 q => ?_) ha hb
  obtain ⟨p, vs, rfl, s1, m1⟩ := (e.viewH g1 l1).lst e.sub
  obtain ⟨p', ws, rfl, s2, m2⟩ := (e.viewH g2 l2).lst e.sub
  refine ⟨p, p', vs, ws, rfl, rfl, s1, s2, by rw [m1.length, m2.length]; exact h3, fun q' hq' => ?_⟩
  obtain ⟨e2, k2⟩ := e.newL hq' (m1.append m2)
  exact q _ F fi _ (Sub.refl F) (List.prefix_refl _) e2 k2
end

/-! ### names, constants -/
section
variable {T : Tbs} {X : Cx} {G : List Cell} {mu : List Dt} {pos : Pos}
theorem ev_int {i : Int} {j} : EvD T X G mu (.Constant (.int i) j pos) (.dat (.int i)) mu := pe_imp pe_int fun sg H Q ⟨B, F, fi, e, q⟩ => q _ F fi H (Sub.refl F) (List.prefix_refl _) e (.int i)
theorem ev_str {i : Str} {j} : EvD T X G mu (.Constant (.str i) j pos) (.dat (.str i)) mu := pe_imp pe_str fun sg H Q ⟨B, F, fi, e, q⟩ => q _ F fi H (Sub.refl F) (List.prefix_refl _) e (.str i)
theorem ev_bl {i : Bool} {j} : EvD T X G mu (.Constant (.bool i) j pos) (.dat (.bl i)) mu := pe_imp pe_bl fun sg H Q ⟨B, F, fi, e, q⟩ => q _ F fi H (Sub.refl F) (List.prefix_refl _) e (.bl i)
theorem ev_non {j} : EvD T X G mu (.Constant .none j pos) (.dat .non) mu := pe_imp pe_non fun sg H Q ⟨B, F, fi, e, q⟩ => q _ F fi H (Sub.refl F) (List.prefix_refl _) e .non
theorem ev_val (i : Nat) {x : Str} {d : Dt} (hN : X.N[i]? = some x := by rfl) (hv : Vis X.env.scope x := by first | exact Or.inl rfl | exact Or.inr (Or.inl rfl) | exact Or.inr (Or.inr rfl)) (hG : G[i]? = some (.val d) := by rfl)
    (hd : (x == ("__debug__" : Str)) = false := by decide) (hcd : (x == ("__classdict__" : Str)) = false := by decide) : EvD T X G mu (.Name x pos) (.dat d) mu :=
  pe_imp (pe_var hN hv hd hcd) fun sg H Q ⟨B, F, fi, e, q⟩ => by
    obtain ⟨v, h1, h2⟩ := e.slot i d hG
    exact ⟨v, h1, q v F fi H (Sub.refl F) (List.prefix_refl _) e h2⟩
theorem ev_own (i : Nat) {x : Str} {d : Dt} (hN : X.N[i]? = some x := by rfl) (hv : Vis X.env.scope x := by first | exact Or.inl rfl | exact Or.inr (Or.inl rfl) | exact Or.inr (Or.inr rfl)) (hG : G[i]? = some (.own d) := by rfl)
    (hd : (x == ("__debug__" : Str)) = false := by decide) (hcd : (x == ("__classdict__" : Str)) = false := by decide) : EvD T X G mu (.Name x pos) (.bor i) mu :=
  pe_imp (pe_var hN hv hd hcd) fun sg H Q ⟨B, F, fi, e, q⟩ => by
    obtain ⟨p, h1, h2, h3, h4⟩ := e.own i d hG
    exact ⟨.ref p, h1, q _ F fi H (Sub.refl F) (List.prefix_refl _) e ⟨h1, d, hG⟩⟩
/-- a module's int -/
theorem ev_gint {x : Str} {i : Int} (hm : ∃ t, X.mg x = some (.int i t)) (hg : Gl X x := by rfl) (hd : (x == ("__debug__" : Str)) = false := by decide) : EvD T X G mu (.Name x pos) (.dat (.int i)) mu := by
  obtain ⟨t, hm⟩ := hm
  exact pe_imp (pe_glob hg hm (v := .int i) ⟨t, rfl⟩ hd) fun sg H Q ⟨B, F, fi, e, q⟩ => q _ F fi H (Sub.refl F) (List.prefix_refl _) e (.int i)
theorem ev_gstr {x z : Str} (hm : ∃ t, X.mg x = some (.str z t)) (hg : Gl X x := by rfl) (hd : (x == ("__debug__" : Str)) = false := by decide) : EvD T X G mu (.Name x pos) (.dat (.str z)) mu := by
  obtain ⟨t, hm⟩ := hm
  exact pe_imp (pe_glob hg hm (v := .str z) ⟨t, rfl⟩ hd) fun sg H Q ⟨B, F, fi, e, q⟩ => q _ F fi H (Sub.refl F) (List.prefix_refl _) e (.str z)
/-- a module's object: a def, a class -/
theorem ev_gref {x : Str} {f : Addr} (hm : X.mg x = some (.ref f)) (hg : Gl X x := by rfl) (hd : (x == ("__debug__" : Str)) = false := by decide) : EvD T X G mu (.Name x pos) (.dat (.obj (.ref f))) mu :=
  pe_imp (pe_glob hg hm (v := .ref f) rfl hd) fun sg H Q ⟨B, F, fi, e, q⟩ => q _ F fi H (Sub.refl F) (List.prefix_refl _) e (.obj _)
end

/-! ### arguments, displays -/
section
variable {T : Tbs} {X : Cx} {G : List Cell} {mu mu1 mu2 : List Dt} {r : Res} {rs : List Res} {e : Expr} {es : List Expr} {pos : Pos}
theorem RpRs.keep {K : PySem.W.Frag} {B : Bs} {F F' : Hp} {fi fi' : List Addr} {sg : L2.St} {H H' : Hp} (s : Sub F F') (p : fi <+: fi') : ∀ {vs : List V} {rs : List Res}, RpRs K B F fi sg H G vs rs → RpRs K B F' fi' sg H' G vs rs
  | _, _, .nil => .nil
  | _, _, .cons h r => .cons (h.keep s p) (RpRs.keep s p r)
theorem ea_nil : EvA T X G mu [] [] mu := pa_imp pa_nil fun sg H Q ⟨B, F, fi, e, q⟩ => q _ F fi H (Sub.refl F) (List.prefix_refl _) e .nil
theorem ea_cons (ha : EvD T X G mu e r mu1) (hr : EvA T X G mu1 es rs mu2) (hs : starEach (e :: es) X.env = (false, eval e X.env) :: starEach es X.env := by rfl) : EvA T X G mu (e :: es) (r :: rs) mu2 := by
  refine pa_imp (pa_cons ha hr hs) fun sg H Q ⟨B, F, fi, e, q⟩ => ?_
  refine ⟨B, F, fi, e, fun v F1 fi1 H1 s1 p1 e1 h1 => ?_⟩
  obtain ⟨F1', s1', e1', h1'⟩ := e1.hold h1
  refine ⟨B, F1', fi1, e1', fun vs F2 fi2 H2 s2 p2 e2 h2 => ?_⟩
  exact q _ F2 fi2 H2 ((s1.trans s1').trans s2) (p1.trans p2) e2 (.cons (h1'.keep s2 p2) h2)
/-- arguments that are all data, new objects given up -/
inductive Dats : List Res → List Dt → Prop
  | nil : Dats [] []
  | dat {d : Dt} {rs : List Res} {ds : List Dt} : Dats rs ds → Dats (.dat d :: rs) (d :: ds)
  | new {d : Dt} {rs : List Res} {ds : List Dt} : Dats rs ds → Dats (.new d :: rs) (d :: ds)
theorem RpRs.dats {K : PySem.W.Frag} {B : Bs} {F : Hp} {fi : List Addr} {sg : L2.St} {H : Hp} : ∀ {vs : List V} {rs : List Res} {ds : List Dt}, RpRs K B F fi sg H G vs rs → Dats rs ds → RpL K F fi vs ds
  | _, _, _, .nil, .nil => .nil
  | _, _, _, .cons h r, .dat t => .cons h (RpRs.dats r t)
  | _, _, _, .cons h r, .new t => .cons h (RpRs.dats r t)
theorem RpRs.length {K : PySem.W.Frag} {B : Bs} {F : Hp} {fi : List Addr} {sg : L2.St} {H : Hp} : ∀ {vs : List V} {rs : List Res}, RpRs K B F fi sg H G vs rs → vs.length = rs.length
  | _, _, .nil => rfl
  | _, _, .cons _ r => by rw [List.length_cons, List.length_cons, RpRs.length r]
theorem Dats.length : ∀ {rs : List Res} {ds : List Dt}, Dats rs ds → rs.length = ds.length
  | _, _, .nil => rfl
  | _, _, .dat r => by rw [List.length_cons, List.length_cons, Dats.length r]
  | _, _, .new r => by rw [List.length_cons, List.length_cons, Dats.length r]
theorem ev_tup {ds : List Dt} {k} (ha : EvA T X G mu es rs mu1) (hd : Dats rs ds) (hl : ds.length ≤ 1000 := by decide) : EvD T X G mu (.Tuple es k pos) (.dat (.tup ds)) mu1 := by
  refine pe_imp (pe_tup ha) fun sg H Q ⟨B, F, fi, e, q⟩ => ?_
  refine ⟨B, F, fi, e, fun vs F1 fi1 H1 s1 p1 e1 h1 => ⟨?_, fun p hp => ?_⟩⟩
  · rw [h1.length, hd.length]
    exact Nat.le_of_lt (small1000 hl)
  · obtain ⟨F2, s2, e2, h2⟩ := e1.newT hp (h1.dats hd)
    exact q _ F2 fi1 _ (s1.trans s2) p1 e2 h2
theorem ev_lst {ds : List Dt} (ha : EvA T X G mu es rs mu1) (hd : Dats rs ds) (hl : ds.length ≤ 1000 := by decide) : EvD T X G mu (.List es pos) (.new (.lst ds)) mu1 := by
  refine pe_imp (pe_lst ha) fun sg H Q ⟨B, F, fi, e, q⟩ => ?_
  refine ⟨B, F, fi, e, fun vs F1 fi1 H1 s1 p1 e1 h1 => ⟨?_, fun p hp => ?_⟩⟩
  · rw [h1.length, hd.length]
    exact Nat.le_of_lt (small1000 hl)
  · obtain ⟨e2, h2⟩ := e1.newL hp (h1.dats hd)
    exact q _ F1 fi1 _ s1 p1 e2 h2
end
end Dl

set_option Elab.async false
set_option linter.all false
set_option maxRecDepth 100000
set_option maxHeartbeats 4000000
/-! Dl3: equality, in, subscripts, slices, tests. -/
namespace Dl
open PySem PySem.Spec PyProof.Rows L2

/-! ### data as the library has it -/
mutual
def Dt.py : Dt → PyData
  | .non => .none
  | .bl b => .bool b
  | .int i => .int i
  | .str s => .str s
  | .tup ds => .tuple (Dt.pyAll ds)
  | .lst ds => .list (Dt.pyAll ds)
  | _ => .none
def Dt.pyAll : List Dt → List PyData
  | [] => []
  | d :: ds => d.py :: Dt.pyAll ds
end
theorem Dt.pyAll_map : ∀ ds : List Dt, Dt.pyAll ds = ds.map Dt.py
  | [] => rfl
  | d :: ds => by rw [Dt.pyAll, Dt.pyAll_map ds]; rfl
/-- plain data at most n deep -/
def Dt.dep : Nat → Dt → Bool
  | _, .non => true
  | _, .bl _ => true
  | _, .int _ => true
  | _, .str s => PyData.canLay0 (.str s)
  | n + 1, .tup ds => ds.all (Dt.dep n)
  | n + 1, .lst ds => ds.all (Dt.dep n)
  | _, _ => false
mutual
theorem Dt.dep_py : ∀ (n : Nat) (d : Dt), d.dep n = true → d.py.canLay0 = true ∧ d.py.depth ≤ n
  | _, .non, _ => ⟨rfl, by simp [Dt.py, PyData.depth]⟩
  | _, .bl _, _ => ⟨rfl, by simp [Dt.py, PyData.depth]⟩
  | _, .int _, _ => ⟨rfl, by simp [Dt.py, PyData.depth]⟩
  | n, .str s, h => ⟨by cases n <;> exact h, by simp [Dt.py, PyData.depth]⟩
  | n + 1, .tup ds, h => by
    obtain ⟨h1, h2⟩ := Dt.dep_pyAll n ds (by simpa [Dt.dep] using h)
    simp only [Dt.py, PyData.canLay0, PyData.depth]
    exact ⟨h1, by omega⟩
  | n + 1, .lst ds, h => by
    obtain ⟨h1, h2⟩ := Dt.dep_pyAll n ds (by simpa [Dt.dep] using h)
    simp only [Dt.py, PyData.canLay0, PyData.depth]
    exact ⟨h1, by omega⟩
  | 0, .tup _, h => by simp [Dt.dep] at h
  | 0, .lst _, h => by simp [Dt.dep] at h
  | _, .dic _ _ _, h => by simp [Dt.dep] at h
  | _, .obj _, h => by simp [Dt.dep] at h
  | _, .ptr _, h => by simp [Dt.dep] at h
  | _, .scr _, h => by simp [Dt.dep] at h
  | _, .abs _, h => by simp [Dt.dep] at h
theorem Dt.dep_pyAll : ∀ (n : Nat) (ds : List Dt), (∀ d ∈ ds, d.dep n = true) → PyData.canLayAll0 (Dt.pyAll ds) = true ∧ PyData.depthAll (Dt.pyAll ds) ≤ n
  | _, [], _ => ⟨rfl, by simp [Dt.pyAll, PyData.depthAll]⟩
  | n, d :: ds, h => by
    obtain ⟨h1, h2⟩ := Dt.dep_py n d (h d List.mem_cons_self)
    obtain ⟨h3, h4⟩ := Dt.dep_pyAll n ds fun x hx => h x (List.mem_cons_of_mem _ hx)
    simp only [Dt.pyAll, PyData.canLayAll0, PyData.depthAll]
    exact ⟨by rw [h1, h3]; rfl, by omega⟩
end
theorem Dt.shaped {d : Dt} (h : d.dep 60 = true) : SeqAt.shaped d.py = true := by
  obtain ⟨h1, h2⟩ := Dt.dep_py 60 d h
  unfold SeqAt.shaped
  rw [h1, decide_eq_true (by omega)]
  rfl
section
variable {K : PySem.W.Frag} {F : Hp} {fi : List Addr} {H : Hp}
mutual
theorem Rp.dp (s : Sub F H) : ∀ {n : Nat} {v : V} {d : Dt}, Rp K F fi v d → d.dep n = true → Dp K H v d.py
  | _, _, _, .non, _ => .non
  | _, _, _, .bl b, _ => .bl b
  | _, _, _, .int i, _ => .int i
  | _, _, _, .str x, _ => .str x
  | 0, _, _, .tup _ _, h => by simp [Dt.dep] at h
  | 0, _, _, .lst _ _, h => by simp [Dt.dep] at h
  | n + 1, _, _, .tup e r, h => .tup (SqT.of (s _ _ e)) (RpL.dp s (n := n) r (by simpa [Dt.dep] using h))
  | n + 1, _, _, .lst e r, h => .lst (SqL.of (s _ _ e)) (RpL.dp s (n := n) r (by simpa [Dt.dep] using h))
  | _, _, _, .dic _ _ _ _, h => by simp [Dt.dep] at h
  | _, _, _, .obj v, h => by simp [Dt.dep] at h
  | _, _, _, .ptr _, h => by simp [Dt.dep] at h
  | _, _, _, .scr _, h => by simp [Dt.dep] at h
  | _, _, _, .abs _, h => by simp [Dt.dep] at h
theorem RpL.dp (s : Sub F H) : ∀ {n : Nat} {vs : List V} {ds : List Dt}, RpL K F fi vs ds → (∀ d ∈ ds, d.dep n = true) → DpAll K H vs (Dt.pyAll ds)
  | _, _, _, .nil, _ => .nil
  | n, _, _, .cons h r, q => .cons (Rp.dp s (n := n) h (q _ List.mem_cons_self)) (RpL.dp s (n := n) r fun x hx => q x (List.mem_cons_of_mem _ hx))
end
theorem Vw.dp (s : Sub F H) {v : V} {d : Dt} (h : Vw K F fi H v d) (hd : d.dep 60 = true) : Dp K H v d.py := by
  rcases h with h | ⟨p, rfl, h⟩
  · exact h.dp s hd
  · cases d with
    | lst ds =>
      obtain ⟨vs, h1, h2⟩ := h
      exact .lst (SqL.of h1) (RpL.dp s (n := 59) h2 (by simpa [Dt.dep] using hd))
    | dic t ks ds => simp [Dt.dep] at hd
    | _ => exact h.elim
end

section
variable {T : Tbs} {X : Cx} {G : List Cell} {mu mu1 mu2 mu3 : List Dt} {r r1 r2 r3 : Res} {a b c e : Expr} {pos p2 : Pos} {d d1 d2 : Dt} {k : Bool}
/-- == of data -/
theorem ev_eq (hu : X.A.units + 64 < cLine) (ha : EvD T X G mu a r1 mu1) (hb : EvD T X G mu1 b r2 mu2) (hk : PyData.eqv d1.py d2.py = k) (s1 : d1.dep 60 = true) (s2 : d2.dep 60 = true) (l1 : look G r1 = some d1 := by rfl) (l2 : look G r2 = some d2 := by rfl) :
    EvD T X G mu (.Compare a [.Eq] [b] pos) (.dat (.bl k)) mu2 :=
  ev_cmp (op_eqD hu) (op2_val l1 l2 fun F fi H v u Q s h1 h2 q => ⟨d1.py, d2.py, h1.dp s s1, h2.dp s s2, Dt.shaped s1, Dt.shaped s2, by rw [hk]; exact q _ (.bl _)⟩) (nomark _) ha hb
theorem ev_ne (hu : X.A.units + 64 < cLine) (ha : EvD T X G mu a r1 mu1) (hb : EvD T X G mu1 b r2 mu2) (hk : PyData.eqv d1.py d2.py = k) (s1 : d1.dep 60 = true) (s2 : d2.dep 60 = true) (l1 : look G r1 = some d1 := by rfl) (l2 : look G r2 = some d2 := by rfl) :
    EvD T X G mu (.Compare a [.NotEq] [b] pos) (.dat (.bl (!k))) mu2 :=
  ev_cmp (op_neD hu) (op2_val l1 l2 fun F fi H v u Q s h1 h2 q => ⟨d1.py, d2.py, h1.dp s s1, h2.dp s s2, Dt.shaped s1, Dt.shaped s2, by rw [hk]; exact q _ (.bl _)⟩) (nomark _) ha hb
/-- in a list of data -/
theorem ev_in (hu : X.A.units + 65 < cLine) {ds : List Dt} (ha : EvD T X G mu a r1 mu1) (hb : EvD T X G mu1 b r2 mu2) (hk : (ds.any fun z => PyData.eqv z.py d1.py) = k) (s1 : d1.dep 60 = true) (s2 : (Dt.lst ds).dep 60 = true) (l1 : look G r1 = some d1 := by rfl) (l2 : look G r2 = some (.lst ds) := by rfl)
    (hm : behindInMarks .In b = false := by rfl) : EvD T X G mu (.Compare a [.In] [b] pos) (.dat (.bl k)) mu2 :=
  ev_cmp (op_inD hu) (op2_val l1 l2 fun F fi H v u Q s h1 h2 q => ⟨d1.py, ds.map Dt.py, h1.dp s s1, by rw [← Dt.pyAll_map]; exact h2.dp s s2, Dt.shaped s1, by rw [← Dt.pyAll_map]; exact Dt.shaped s2, by
    rw [List.any_map]
    have e : (ds.any ((fun z => PyData.eqv z d1.py) ∘ Dt.py)) = k := hk
    rw [e]
    exact q _ (.bl _)⟩) hm ha hb
theorem ev_notin (hu : X.A.units + 65 < cLine) {ds : List Dt} (ha : EvD T X G mu a r1 mu1) (hb : EvD T X G mu1 b r2 mu2) (hk : (ds.any fun z => PyData.eqv z.py d1.py) = k) (s1 : d1.dep 60 = true) (s2 : (Dt.lst ds).dep 60 = true) (l1 : look G r1 = some d1 := by rfl) (l2 : look G r2 = some (.lst ds) := by rfl)
    (hm : behindInMarks .NotIn b = false := by rfl) : EvD T X G mu (.Compare a [.NotIn] [b] pos) (.dat (.bl (!k))) mu2 :=
  ev_cmp (op_notInD hu) (op2_val l1 l2 fun F fi H v u Q s h1 h2 q => ⟨d1.py, ds.map Dt.py, h1.dp s s1, by rw [← Dt.pyAll_map]; exact h2.dp s s2, Dt.shaped s1, by rw [← Dt.pyAll_map]; exact Dt.shaped s2, by
    rw [List.any_map]
    have e : (ds.any ((fun z => PyData.eqv z d1.py) ∘ Dt.py)) = k := hk
    rw [e]
    exact q _ (.bl _)⟩) hm ha hb
/-- is None -/
def Dt.isNon : Dt → Bool
  | .non => true
  | _ => false
theorem Vw.isNon {K : PySem.W.Frag} {F : Hp} {fi : List Addr} {H : Hp} {v : V} (h : Vw K F fi H v d) (ho : ∀ z, d ≠ .obj z) : decide (v = V.non) = d.isNon := by
  rcases h with h | ⟨p, rfl, h⟩
  · cases h with
    | obj v => exact absurd rfl (ho v)
    | _ => first | rfl | simp [Dt.isNon]
  · cases d with
    | lst ds => simp [Dt.isNon]
    | dic t ks ds => simp [Dt.isNon]
    | _ => exact h.elim
theorem ev_isnon {j} (ha : EvD T X G mu a r1 mu1) (l1 : look G r1 = some d := by rfl) (ho : ∀ z, d ≠ .obj z := by intro z h; cases h) : EvD T X G mu (.Compare a [.Is] [.Constant .none j p2] pos) (.dat (.bl d.isNon)) mu1 :=
  ev_cmp op_isN (r2 := .dat .non) (op2_val l1 rfl fun F fi H v u Q s h1 h2 q => ⟨h2.non, by rw [h1.isNon ho]; exact q _ (.bl _)⟩) (nomark _) ha ev_non
theorem ev_notnon {j} (ha : EvD T X G mu a r1 mu1) (l1 : look G r1 = some d := by rfl) (ho : ∀ z, d ≠ .obj z := by intro z h; cases h) : EvD T X G mu (.Compare a [.IsNot] [.Constant .none j p2] pos) (.dat (.bl (!d.isNon))) mu1 :=
  ev_cmp op_notN (r2 := .dat .non) (op2_val l1 rfl fun F fi H v u Q s h1 h2 q => ⟨h2.non, by rw [h1.isNon ho]; exact q _ (.bl _)⟩) (nomark _) ha ev_non

/-! ### subscripts -/
theorem RpL.at {K : PySem.W.Frag} {F : Hp} {fi : List Addr} {vs : List V} {ds : List Dt} {i : Int} (h : RpL K F fi vs ds) (e : atI ds i = some d) : ∃ v, atI vs i = some v ∧ Rp K F fi v d := by
  unfold atI at e ⊢
  rw [h.length]
  cases q : ixN ds.length i with
  | none => rw [q] at e; cases e
  | some j =>
    rw [q] at e
    exact h.getD e
theorem ev_ixT {ds : List Dt} {i : Int} (ha : EvD T X G mu a r1 mu1) (hb : EvD T X G mu1 b r2 mu2) (hi : atI ds i = some d) (l1 : look G r1 = some (.tup ds) := by rfl) (l2 : look G r2 = some (.int i) := by rfl) (hs : PlainIx b := by exact fun _ _ => rfl) :
    EvD T X G mu (.Subscript a b pos) (.dat d) mu2 := by
  refine pe_imp (pe_ix ix_tup ha hb hs) (rd_op (op2_val l1 l2 fun F fi H v u Q s h1 h2 q => ?_))
  obtain ⟨p, vs, rfl, f1, f2, m⟩ := h1.tup s
  obtain ⟨w, e1, e2⟩ := m.at hi
  exact ⟨p, vs, i, w, rfl, h2.int, SqT.of f2, e1, q _ e2⟩
theorem ev_ixL {ds : List Dt} {i : Int} (ha : EvD T X G mu a r1 mu1) (hb : EvD T X G mu1 b r2 mu2) (hi : atI ds i = some d) (l1 : look G r1 = some (.lst ds) := by rfl) (l2 : look G r2 = some (.int i) := by rfl) (hs : PlainIx b := by exact fun _ _ => rfl) :
    EvD T X G mu (.Subscript a b pos) (.dat d) mu2 := by
  refine pe_imp (pe_ix ix_list ha hb hs) (rd_op (op2_val l1 l2 fun F fi H v u Q s h1 h2 q => ?_))
  obtain ⟨p, vs, rfl, f2, m⟩ := h1.lst s
  obtain ⟨w, e1, e2⟩ := m.at hi
  exact ⟨p, vs, i, w, rfl, h2.int, SqL.of f2, e1, q _ e2⟩
theorem ev_ixS {z : Str} {i : Int} {ch : Nat} (ha : EvD T X G mu a r1 mu1) (hb : EvD T X G mu1 b r2 mu2) (hz : z.length ≤ sizeLine) (hi : atI z.cps.toList i = some ch) (l1 : look G r1 = some (.str z) := by rfl) (l2 : look G r2 = some (.int i) := by rfl) (hs : PlainIx b := by exact fun _ _ => rfl) :
    EvD T X G mu (.Subscript a b pos) (.dat (.str ⟨#[ch]⟩)) mu2 :=
  pe_imp (pe_ix ix_str ha hb hs) (rd_op (op2_val l1 l2 fun F fi H v u Q s h1 h2 q => ⟨z, i, ch, h1.str, h2.int, hz, hi, q _ (.str _)⟩))

/-- a part of a slice -/
def rdO (K : PySem.W.Frag) (T : Tbs) (G : List Cell) (mu : List Dt) (o : Option Int) (mu' : List Dt) : TO := fun sg H Q =>
  ∃ B F fi, DE K T B F fi sg H G mu ∧ ∀ F' fi' H', Sub F F' → fi <+: fi' → DE K T B F' fi' sg H' G mu' → Q o H'
theorem po_imp {e : Option Expr} {t t' : TO} (h : PO X e t) (i : ∀ sg H Q, t' sg H Q → t sg H Q) : PO X e t' := ⟨fun pins s sg H Q I q => h.run pins s sg H Q I (i sg H Q q)⟩
abbrev EvO (T : Tbs) (X : Cx) (G : List Cell) (mu : List Dt) (e : Option Expr) (o : Option Int) (mu' : List Dt) : Prop := PO X e (rdO X.K T G mu o mu')
theorem eo_none : EvO T X G mu none none mu := po_imp po_none fun sg H Q ⟨B, F, fi, e, q⟩ => q F fi H (Sub.refl F) (List.prefix_refl _) e
theorem eo_some {i : Int} (h : EvD T X G mu a r mu1) (l : look G r = some (.int i) := by rfl) : EvO T X G mu (some a) (some i) mu1 := po_imp (po_some h) fun sg H Q ⟨B, F, fi, e, q⟩ =>
  ⟨B, F, fi, e, fun v F' fi' H' s p e' h => ⟨i, (e'.view h l).int, q F' fi' H' s p e'⟩⟩
def cutD (ds : List Dt) (lo hi : Option Int) : List Dt := (ds.drop (HT.sIx ds.length 0 lo)).take (HT.sIx ds.length ds.length hi - HT.sIx ds.length 0 lo)
theorem RpL.cut {K : PySem.W.Frag} {F : Hp} {fi : List Addr} {vs : List V} {ds : List Dt} {lo hi : Option Int} (h : RpL K F fi vs ds) : RpL K F fi (cutV vs lo hi) (cutD ds lo hi) := by
  unfold cutV cutD
  rw [h.length]
  exact (h.drop _).take _
variable {lo hi : Option Expr} {i1 i2 : Option Int}
theorem ev_slT {ds : List Dt} (ha : EvD T X G mu a r1 mu1) (hl : EvO T X G mu1 lo i1 mu2) (hh : EvO T X G mu2 hi i2 mu3) (l1 : look G r1 = some (.tup ds) := by rfl) : EvD T X G mu (.Subscript a (.Slice lo hi none p2) pos) (.dat (.tup (cutD ds i1 i2))) mu3 := by
  refine pe_imp (pe_slice sl_tupA ha hl hh) fun sg H Q ⟨B, F, fi, e, q⟩ => ?_
  refine ⟨B, F, fi, e, fun v F1 fi1 H1 s1 p1 e1 h1 => ?_⟩
  obtain ⟨F1', s1', e1', h1'⟩ := e1.hold h1
  refine ⟨B, F1', fi1, e1', fun F2 fi2 H2 s2 p2 e2 => ⟨B, F2, fi2, e2, fun F3 fi3 H3 s3 p3 e3 => ?_⟩⟩
  have h3 := e3.viewH (h1'.keep (s2.trans s3) (p2.trans p3)) l1
  obtain ⟨p, vs, rfl, f1, f2, m⟩ := h3.tup e3.sub
  refine ⟨p, vs, rfl, SqT.of f2, fun hw => ?_, fun hw p hp => ?_⟩
  · refine q _ F3 fi3 H3 (((s1.trans s1').trans s2).trans s3) ((p1.trans p2).trans p3) e3 (.tup f1 ?_)
    have e : cutD ds i1 i2 = ds := by
      unfold cutD
      rw [← m.length, hw.1, hw.2, List.drop_zero, Nat.sub_zero, m.length, List.take_length]
    rw [e]
    exact m
  · obtain ⟨F4, s4, e4, h4⟩ := e3.newT hp m.cut
    exact q _ F4 fi3 _ ((((s1.trans s1').trans s2).trans s3).trans s4) ((p1.trans p2).trans p3) e4 h4
theorem ev_slL {ds : List Dt} (ha : EvD T X G mu a r1 mu1) (hl : EvO T X G mu1 lo i1 mu2) (hh : EvO T X G mu2 hi i2 mu3) (l1 : look G r1 = some (.lst ds) := by rfl) : EvD T X G mu (.Subscript a (.Slice lo hi none p2) pos) (.new (.lst (cutD ds i1 i2))) mu3 := by
  refine pe_imp (pe_slice sl_list ha hl hh) fun sg H Q ⟨B, F, fi, e, q⟩ => ?_
  refine ⟨B, F, fi, e, fun v F1 fi1 H1 s1 p1 e1 h1 => ?_⟩
  obtain ⟨F1', s1', e1', h1'⟩ := e1.hold h1
  refine ⟨B, F1', fi1, e1', fun F2 fi2 H2 s2 p2 e2 => ⟨B, F2, fi2, e2, fun F3 fi3 H3 s3 p3 e3 => ?_⟩⟩
  have h3 := e3.viewH (h1'.keep (s2.trans s3) (p2.trans p3)) l1
  obtain ⟨p, vs, rfl, f2, m⟩ := h3.lst e3.sub
  refine ⟨p, vs, rfl, SqL.of f2, fun p hp => ?_⟩
  obtain ⟨e4, h4⟩ := e3.newL hp m.cut
  exact q _ F3 fi3 _ (((s1.trans s1').trans s2).trans s3) ((p1.trans p2).trans p3) e4 h4

/-! ### tests -/
variable {rest : List Expr} {ops : List CmpOp} {k1 k2 : Bool}
theorem et_val (h : EvD T X G mu a (.dat (.bl k)) mu1) (he : ∀ whole, isTrue a X.env whole = (do let v ← whole; standAt a.pos; holding [v] (truthy v)) := by intro _; rfl) : EvT T X G mu a k mu1 :=
  pt_imp (pt_val h he) fun sg H Q ⟨B, F, fi, e, q⟩ => ⟨B, F, fi, e, fun v F' fi' H' s p e' h' => by
    cases h'
    exact ⟨k, rfl, q F' fi' H' s p e'⟩⟩
/-- by truth -/
def tru : Dt → Option Bool
  | .non => some false
  | .bl b => some b
  | .int i => some (i != 0)
  | .tup ds => some (!ds.isEmpty)
  | .lst ds => some (!ds.isEmpty)
  | _ => none
theorem RpL.isEmpty {K : PySem.W.Frag} {F : Hp} {fi : List Addr} {vs : List V} {ds : List Dt} (h : RpL K F fi vs ds) : vs.isEmpty = ds.isEmpty := by
  cases h <;> rfl
theorem Vw.tru {K : PySem.W.Frag} {F : Hp} {fi : List Addr} {H : Hp} (s : Sub F H) {v : V} (h : Vw K F fi H v d) (e : tru d = some k) : TruV K v H k := by
  cases d with
  | non => cases e; rw [h.non]; rfl
  | bl b => cases e; rw [h.bl]; rfl
  | int i => cases e; rw [h.int]; rfl
  | tup ds =>
    cases e
    obtain ⟨p, vs, rfl, _, f2, m⟩ := h.tup s
    exact .inr (.inl ⟨vs, SqT.of f2, by rw [m.isEmpty]⟩)
  | lst ds =>
    cases e
    obtain ⟨p, vs, rfl, f2, m⟩ := h.lst s
    exact .inl ⟨vs, SqL.of f2, by rw [m.isEmpty]⟩
  | _ => cases e
theorem et_tru (h : EvD T X G mu a r mu1) (l : look G r = some d) (hk : tru d = some k) (he : ∀ whole, isTrue a X.env whole = (do let v ← whole; standAt a.pos; holding [v] (truthy v)) := by intro _; rfl) : EvT T X G mu a k mu1 :=
  pt_imp (pt_truth h he) fun sg H Q ⟨B, F, fi, e, q⟩ => ⟨B, F, fi, e, fun v F' fi' H' s p e' h' => ⟨k, (e'.view h' l).tru e'.sub hk, q F' fi' H' s p e'⟩⟩
theorem et_not (h : EvT T X G mu a k mu1) : EvT T X G mu (.UnaryOp .Not a pos) (!k) mu1 := pt_imp (pt_not h) fun sg H Q q => q
/-- and, or: as they stop -/
abbrev EvW (T : Tbs) (X : Cx) (G : List Cell) (mu : List Dt) (e : Expr) (b : Bool) (mu' : List Dt) : Prop := PW X e (rdT X.K T G mu b mu')
theorem pw_imp {e : Expr} {t t' : TT} (h : PW X e t) (i : ∀ sg H Q, t' sg H Q → t sg H Q) : PW X e t' := ⟨fun wh pins s sg H Q I q => h.run wh pins s sg H Q I (i sg H Q q)⟩
theorem pt_never {e : Expr} : PT X e (fun _ _ _ => False) := ⟨fun _ _ _ _ _ _ h => h.elim⟩
theorem pw_never {e : Expr} : PW X e (fun _ _ _ => False) := ⟨fun _ _ _ _ _ _ _ h => h.elim⟩
theorem ew_and1 (h : EvT T X G mu a k mu1) : EvW T X G mu (.BoolOp .And [a] pos) k mu1 := pw_and1 h
theorem ew_or1 (h : EvT T X G mu a k mu1) : EvW T X G mu (.BoolOp .Or [a] pos) k mu1 := pw_or1 h
theorem ew_andT (h : EvT T X G mu a true mu1) (h2 : EvW T X G mu1 (.BoolOp .And (b :: rest) pos) k mu2) : EvW T X G mu (.BoolOp .And (a :: b :: rest) pos) k mu2 :=
  pw_imp (pw_and h h2) fun sg H Q ⟨B, F, fi, e, q⟩ => ⟨B, F, fi, e, fun F' fi' H' s p e' => iteT ⟨B, F', fi', e', fun F2 fi2 H2 s2 p2 e2 => q F2 fi2 H2 (s.trans s2) (p.trans p2) e2⟩⟩
theorem ew_andF (h : EvT T X G mu a false mu1) : EvW T X G mu (.BoolOp .And (a :: b :: rest) pos) false mu1 :=
  pw_imp (pw_and h (pw_never (e := .BoolOp .And (b :: rest) pos))) fun sg H Q ⟨B, F, fi, e, q⟩ => ⟨B, F, fi, e, fun F' fi' H' s p e' => iteF (q F' fi' H' s p e')⟩
theorem ew_orF (h : EvT T X G mu a false mu1) (h2 : EvW T X G mu1 (.BoolOp .Or (b :: rest) pos) k mu2) : EvW T X G mu (.BoolOp .Or (a :: b :: rest) pos) k mu2 :=
  pw_imp (pw_or h h2) fun sg H Q ⟨B, F, fi, e, q⟩ => ⟨B, F, fi, e, fun F' fi' H' s p e' => iteF ⟨B, F', fi', e', fun F2 fi2 H2 s2 p2 e2 => q F2 fi2 H2 (s.trans s2) (p.trans p2) e2⟩⟩
theorem ew_orT (h : EvT T X G mu a true mu1) : EvW T X G mu (.BoolOp .Or (a :: b :: rest) pos) true mu1 :=
  pw_imp (pw_or h (pw_never (e := .BoolOp .Or (b :: rest) pos))) fun sg H Q ⟨B, F, fi, e, q⟩ => ⟨B, F, fi, e, fun F' fi' H' s p e' => iteT (q F' fi' H' s p e')⟩
/-- both asked (no end between), for two -/
theorem ew_and (h : EvT T X G mu a k1 mu) (h2 : k1 = true → EvW T X G mu (.BoolOp .And (b :: rest) pos) k2 mu) : EvW T X G mu (.BoolOp .And (a :: b :: rest) pos) (k1 && k2) mu := by
  cases k1 with
  | true => exact ew_andT h (h2 rfl)
  | false => exact ew_andF h
theorem ew_or (h : EvT T X G mu a k1 mu) (h2 : k1 = false → EvW T X G mu (.BoolOp .Or (b :: rest) pos) k2 mu) : EvW T X G mu (.BoolOp .Or (a :: b :: rest) pos) (k1 || k2) mu := by
  cases k1 with
  | true => exact ew_orT h
  | false => exact ew_orF h (h2 rfl)
theorem et_w (h : EvW T X G mu a k mu1) : EvT T X G mu a k mu1 := h.pt
/-- a if t else b -/
theorem ev_ifT (hc : EvT T X G mu c true mu1) (ha : EvD T X G mu1 a r mu2) : EvD T X G mu (.IfExp c a b pos) r mu2 :=
  pe_imp (pe_ifExp hc ha (show PE X b (fun _ _ _ => False) from ⟨fun _ _ _ _ _ _ h => h.elim⟩)) fun sg H Q ⟨B, F, fi, e, q⟩ => ⟨B, F, fi, e, fun F' fi' H' s p e' => iteT ⟨B, F', fi', e', fun v F2 fi2 H2 s2 p2 e2 h2 => q v F2 fi2 H2 (s.trans s2) (p.trans p2) e2 h2⟩⟩
theorem ev_ifF (hc : EvT T X G mu c false mu1) (hb : EvD T X G mu1 b r mu2) : EvD T X G mu (.IfExp c a b pos) r mu2 :=
  pe_imp (pe_ifExp hc (show PE X a (fun _ _ _ => False) from ⟨fun _ _ _ _ _ _ h => h.elim⟩) hb) fun sg H Q ⟨B, F, fi, e, q⟩ => ⟨B, F, fi, e, fun F' fi' H' s p e' => iteF ⟨B, F', fi', e', fun v F2 fi2 H2 s2 p2 e2 h2 => q v F2 fi2 H2 (s.trans s2) (p.trans p2) e2 h2⟩⟩
/-- and, or of truth values, as values -/
theorem pe_never {e : Expr} : PE X e (fun _ _ _ => False) := ⟨fun _ _ _ _ _ _ h => h.elim⟩
theorem ev_one {op} (h : EvD T X G mu a r mu1) : EvD T X G mu (.BoolOp op [a] pos) r mu1 := pe_one h
theorem ev_andT (h : EvD T X G mu a (.dat (.bl true)) mu1) (h2 : EvD T X G mu1 (.BoolOp .And (b :: rest) pos) r mu2) : EvD T X G mu (.BoolOp .And (a :: b :: rest) pos) r mu2 :=
  pe_imp (pe_and h h2) fun sg H Q ⟨B, F, fi, e, q⟩ => ⟨B, F, fi, e, fun v F' fi' H' s p e' h' => by
    cases h'
    exact ⟨true, rfl, iteT ⟨B, F', fi', e', fun v F2 fi2 H2 s2 p2 e2 h2 => q v F2 fi2 H2 (s.trans s2) (p.trans p2) e2 h2⟩⟩⟩
theorem ev_andF (h : EvD T X G mu a (.dat (.bl false)) mu1) : EvD T X G mu (.BoolOp .And (a :: b :: rest) pos) (.dat (.bl false)) mu1 :=
  pe_imp (pe_and h (pe_never (e := .BoolOp .And (b :: rest) pos))) fun sg H Q ⟨B, F, fi, e, q⟩ => ⟨B, F, fi, e, fun v F' fi' H' s p e' h' => by
    cases h'
    exact ⟨false, rfl, iteF (q _ F' fi' H' s p e' (.bl _))⟩⟩
theorem ev_orF (h : EvD T X G mu a (.dat (.bl false)) mu1) (h2 : EvD T X G mu1 (.BoolOp .Or (b :: rest) pos) r mu2) : EvD T X G mu (.BoolOp .Or (a :: b :: rest) pos) r mu2 :=
  pe_imp (pe_or h h2) fun sg H Q ⟨B, F, fi, e, q⟩ => ⟨B, F, fi, e, fun v F' fi' H' s p e' h' => by
    cases h'
    exact ⟨false, rfl, iteF ⟨B, F', fi', e', fun v F2 fi2 H2 s2 p2 e2 h2 => q v F2 fi2 H2 (s.trans s2) (p.trans p2) e2 h2⟩⟩⟩
theorem ev_orT (h : EvD T X G mu a (.dat (.bl true)) mu1) : EvD T X G mu (.BoolOp .Or (a :: b :: rest) pos) (.dat (.bl true)) mu1 :=
  pe_imp (pe_or h (pe_never (e := .BoolOp .Or (b :: rest) pos))) fun sg H Q ⟨B, F, fi, e, q⟩ => ⟨B, F, fi, e, fun v F' fi' H' s p e' h' => by
    cases h'
    exact ⟨true, rfl, iteT (q _ F' fi' H' s p e' (.bl _))⟩⟩
theorem ev_not (h : EvD T X G mu a (.dat (.bl k)) mu1) : EvD T X G mu (.UnaryOp .Not a pos) (.dat (.bl (!k))) mu1 :=
  pe_imp (pe_not h) fun sg H Q ⟨B, F, fi, e, q⟩ => ⟨B, F, fi, e, fun v F' fi' H' s p e' h' => by
    cases h'
    exact ⟨k, rfl, q _ F' fi' H' s p e' (.bl _)⟩⟩
theorem ev_and (h : EvD T X G mu a (.dat (.bl k1)) mu) (h2 : k1 = true → EvD T X G mu (.BoolOp .And (b :: rest) pos) (.dat (.bl k2)) mu) : EvD T X G mu (.BoolOp .And (a :: b :: rest) pos) (.dat (.bl (k1 && k2))) mu := by
  cases k1 with
  | true => exact ev_andT h (h2 rfl)
  | false => exact ev_andF h
theorem ev_or (h : EvD T X G mu a (.dat (.bl k1)) mu) (h2 : k1 = false → EvD T X G mu (.BoolOp .Or (b :: rest) pos) (.dat (.bl k2)) mu) : EvD T X G mu (.BoolOp .Or (a :: b :: rest) pos) (.dat (.bl (k1 || k2))) mu := by
  cases k1 with
  | true => exact ev_orT h
  | false => exact ev_orF h (h2 rfl)
/-- a <= b <= c of ints -/
theorem ev_chain {o1 o2 : CmpOp} {g1 g2 : Int → Int → Bool} {i j l : Int} (h1 : OpR X (compareOp o1) (rI0 fun i j => .bl (g1 i j))) (h2 : OpR X (compareOp o2) (rI0 fun i j => .bl (g2 i j))) (ha : EvD T X G mu a r1 mu) (hb : EvD T X G mu b r2 mu) (hc : EvD T X G mu c r3 mu)
    (l1 : look G r1 = some (.int i) := by rfl) (l2 : look G r2 = some (.int j) := by rfl) (l3 : look G r3 = some (.int l) := by rfl) (hm : lastMarks [o1, o2] [b, c] = false := by with_unfolding_all rfl) : EvD T X G mu (.Compare a [o1, o2] [b, c] pos) (.dat (.bl (g1 i j && g2 j l))) mu := by
  refine pe_imp (pe_chain h1 h2 ha hb hc (hm := hm)) fun sg H Q ⟨B, F, fi, e, q⟩ => ?_
  refine ⟨B, F, fi, e, fun v F1 fi1 H1 s1 p1 e1 m1 => ⟨B, F1, fi1, e1, fun u F2 fi2 H2 s2 p2 e2 m2 => ?_⟩⟩
  refine ⟨i, j, (e1.view m1 l1).int, (e2.view m2 l2).int, g1 i j, rfl, ?_⟩
  cases z : g1 i j with
  | true =>
    refine iteT ⟨B, F2, fi2, e2, fun w F3 fi3 H3 s3 p3 e3 m3 => ⟨j, l, (e2.view m2 l2).int, (e3.view m3 l3).int, q _ F3 fi3 H3 ((s1.trans s2).trans s3) ((p1.trans p2).trans p3) e3 ?_⟩⟩
    show Rp X.K F3 fi3 (.bl (g2 j l)) (.bl (g1 i j && g2 j l))
    rw [z, Bool.true_and]
    exact .bl _
  | false => exact iteF (q _ F2 fi2 H2 (s1.trans s2) (p1.trans p2) e2 (by show Rp X.K F2 fi2 (.bl false) (.bl (g1 i j && g2 j l)); rw [z, Bool.false_and]; exact .bl _))
end
end Dl

set_option Elab.async false
set_option linter.all false
set_option maxRecDepth 100000
set_option maxHeartbeats 4000000
/-! Dl4: slots stored, statements, defs and their calls. -/
namespace Dl
open PySem PySem.Spec PyProof.Rows L2
section
variable {K : PySem.W.Frag} {T : Tbs} {B B' : Bs} {F F' : Hp} {fi fi' : List Addr} {sg : L2.St} {H H' : Hp} {G G' : List Cell} {mu mu1 mu2 mu' : List Dt} {v : V} {r r1 r2 : Res} {d m : Dt} {i : Nat}
/-- the slots forgotten -/
theorem DE.strip (e : DE K T B F fi sg H G mu) : DE K T B F fi [] H [] mu where
  sub := e.sub
  tab := e.tab
  len := rfl
  lenm := e.lenm
  slot := fun i d h => by simp at h
  own := fun i m h => by simp at h
  obj := e.obj
  oo := fun i j m n p h => by simp at h
  om := fun i m p j h => by simp at h
  mm := e.mm
  frame := e.frame
  fold := e.fold
  fpre := e.fpre
  fnew := e.fnew
theorem set_ne {α : Type} {l : List α} {i j : Nat} {x : α} (h : j ≠ i) : (l.set i x)[j]? = l[j]? := List.getElem?_set_ne (Ne.symm h)
theorem set_eq {α : Type} {l : List α} {i : Nat} {x y : α} (h : (l.set i x)[i]? = some y) : y = x ∧ i < l.length := by
  by_cases hi : i < l.length
  · rw [List.getElem?_set_self hi] at h
    exact ⟨(Option.some.inj h).symm, hi⟩
  · rw [List.getElem?_eq_none (by rw [List.length_set]; omega)] at h
    cases h
/-- a slot stored: what it held is given up -/
theorem DE.setC (e : DE K T B F fi sg H G mu) {c : Cell} {x : Option V} (hv : ∀ d, c = .val d → ∃ v, x = some v ∧ Rp K F fi v d)
    (ho : ∀ m, c = .own m → ∃ p, x = some (.ref p) ∧ F p = none ∧ Ob K F fi H p m ∧ B.H p = none ∧ (∀ (j : Nat) (n : Dt), j ≠ i → G[j]? = some (.own n) → sg[j]? ≠ some (some (.ref p))) ∧ ∀ j : Nat, fi[j]? ≠ some p) :
    DE K T B F fi (sg.set i x) H (G.set i c) mu where
  sub := e.sub
  tab := e.tab
  len := by rw [List.length_set, List.length_set]; exact e.len
  lenm := e.lenm
  slot := fun j d h => by
    by_cases hj : j = i
    · subst hj
      obtain ⟨h1, h2⟩ := set_eq h
      obtain ⟨v, h3, h4⟩ := hv d h1.symm
      exact ⟨v, by rw [List.getElem?_set_self (by rw [e.len]; exact h2), h3], h4⟩
    · rw [set_ne hj] at h ⊢
      exact e.slot j d h
  own := fun j m h => by
    by_cases hj : j = i
    · subst hj
      obtain ⟨h1, h2⟩ := set_eq h
      obtain ⟨p, h3, h4, h5, h6, _⟩ := ho m h1.symm
      exact ⟨p, by rw [List.getElem?_set_self (by rw [e.len]; exact h2), h3], h4, h5, h6⟩
    · rw [set_ne hj] at h ⊢
      exact e.own j m h
  obj := e.obj
  oo := fun a b m n p h1 h2 h3 h4 => by
    by_cases ha : a = i
    · by_cases hb : b = i
      · rw [ha, hb]
      · subst ha
        obtain ⟨g1, g2⟩ := set_eq h1
        obtain ⟨q, g3, _, _, _, g4, _⟩ := ho m g1.symm
        rw [List.getElem?_set_self (by rw [e.len]; exact g2), g3] at h3
        cases h3
        rw [set_ne hb] at h2 h4
        exact absurd h4 (g4 b n hb h2)
    · by_cases hb : b = i
      · subst hb
        obtain ⟨g1, g2⟩ := set_eq h2
        obtain ⟨q, g3, _, _, _, g4, _⟩ := ho n g1.symm
        rw [List.getElem?_set_self (by rw [e.len]; exact g2), g3] at h4
        cases h4
        rw [set_ne ha] at h1 h3
        exact absurd h3 (g4 a m ha h1)
      · rw [set_ne ha] at h1 h3
        rw [set_ne hb] at h2 h4
        exact e.oo a b m n p h1 h2 h3 h4
  om := fun a m p j h1 h2 => by
    by_cases ha : a = i
    · subst ha
      obtain ⟨g1, g2⟩ := set_eq h1
      obtain ⟨q, g3, _, _, _, _, g5⟩ := ho m g1.symm
      rw [List.getElem?_set_self (by rw [e.len]; exact g2), g3] at h2
      cases h2
      exact g5 j
    · rw [set_ne ha] at h1 h2
      exact e.om a m p j h1 h2
  mm := e.mm
  frame := e.frame
  fold := e.fold
  fpre := e.fpre
  fnew := e.fnew
theorem DE.setV (e : DE K T B F fi sg H G mu) (h : Rp K F fi v d) : DE K T B F fi (sg.set i (some v)) H (G.set i (.val d)) mu :=
  e.setC (fun d' q => by cases q; exact ⟨v, rfl, h⟩) fun m q => by cases q
theorem DE.setO (e : DE K T B F fi sg H G mu) (h : RpR K B F fi sg H G v (.new m)) : DE K T B F fi (sg.set i (some v)) H (G.set i (.own m)) mu := by
  obtain ⟨p, rfl, h1, h2, h3, h4, h5⟩ := h
  exact e.setC (fun d' q => by cases q) fun m' q => by
    cases q
    exact ⟨p, rfl, h1, h2, h5, fun j n _ => h3 j n, h4⟩
theorem DE.setN (e : DE K T B F fi sg H G mu) {x : Option V} : DE K T B F fi (sg.set i x) H (G.set i .no) mu :=
  e.setC (fun d' q => by cases q) fun m q => by cases q
/-- less is known -/
def Wk (G' G : List Cell) : Prop := G'.length = G.length ∧ ∀ (i : Nat) (c : Cell), G'[i]? = some c → c = .no ∨ G[i]? = some c
theorem Wk.refl (G : List Cell) : Wk G G := ⟨rfl, fun _ _ h => .inr h⟩
theorem DE.weak (e : DE K T B F fi sg H G mu) (w : Wk G' G) : DE K T B F fi sg H G' mu where
  sub := e.sub
  tab := e.tab
  len := e.len.trans w.1.symm
  lenm := e.lenm
  slot := fun i d h => by
    rcases w.2 i _ h with z | z
    · cases z
    · exact e.slot i d z
  own := fun i m h => by
    rcases w.2 i _ h with z | z
    · cases z
    · exact e.own i m z
  obj := e.obj
  oo := fun a b m n p h1 h2 => by
    rcases w.2 a _ h1 with z | z
    · cases z
    · rcases w.2 b _ h2 with y | y
      · cases y
      · exact e.oo a b m n p z y
  om := fun a m p j h1 => by
    rcases w.2 a _ h1 with z | z
    · cases z
    · exact e.om a m p j z
  mm := e.mm
  frame := e.frame
  fold := e.fold
  fpre := e.fpre
  fnew := e.fnew
/-- the object of a slot is given out: it is nobody's -/
theorem DE.out (e : DE K T B F fi sg H G mu) (h : G[i]? = some (.own m)) : ∃ v, sg[i]? = some (some v) ∧ DE K T B F fi sg H (G.set i .no) mu ∧ RpR K B F fi sg H (G.set i .no) v (.new m) := by
  obtain ⟨p, h1, h2, h3, h4⟩ := e.own i m h
  have w : Wk (G.set i .no) G := ⟨by rw [List.length_set], fun j c hj => by
    by_cases z : j = i
    · subst z
      exact .inl (set_eq hj).1
    · rw [set_ne z] at hj
      exact .inr hj⟩
  refine ⟨.ref p, h1, e.weak w, p, rfl, h2, h3, fun j n hj q => ?_, fun j => e.om i m p j h h1, h4⟩
  have z : j ≠ i := fun z => by
    subst z
    have := (set_eq hj).1
    cases this
  rw [set_ne z] at hj
  exact z (e.oo j i n m p hj h q h1)
/-- .. and stays from now on, at its slot too -/
theorem DE.give (e : DE K T B F fi sg H G mu) (h : G[i]? = some (.own m)) : ∃ v F', sg[i]? = some (some v) ∧ Sub F F' ∧ DE K T B F' fi sg H (G.set i (.val m)) mu ∧ Rp K F' fi v m := by
  obtain ⟨v, h1, e1, h2⟩ := e.out h
  obtain ⟨F', s, e2, h3⟩ := e1.freeze h2
  refine ⟨v, F', h1, s, ?_, h3⟩
  have e3 := e2.setV (i := i) h3
  rw [List.set_set] at e3
  have es : sg.set i (some v) = sg := List.ext_getElem? fun j => by
    by_cases z : j = i
    · subst z
      rw [List.getElem?_set_self (List.getElem?_eq_some_iff.mp h1).1, h1]
    · rw [set_ne z]
  rw [es] at e3
  exact e3
/-- the list of a slot is changed -/
theorem DE.chg (e : DE K T B F fi sg H G mu) {p : Addr} {ds ds' : List Dt} {vs' : List V} (h : G[i]? = some (.own (.lst ds))) (hp : sg[i]? = some (some (.ref p))) (hr : RpL K F fi vs' ds') : DE K T B F fi sg (upd H p (.lst vs')) (G.set i (.own (.lst ds'))) mu := by
  obtain ⟨q, h1, h2, ⟨vs, h3, _⟩, h4⟩ := e.own i _ h
  rw [hp] at h1
  cases h1
  have hlt : i < G.length := (List.getElem?_eq_some_iff.mp h).1
  have pT : p ∉ T := e.tabne h3 fun q z => by cases z
  have at' : ∀ {j : Nat} {m : Dt}, (G.set i (.own (.lst ds')))[j]? = some (.own m) → ∃ m', G[j]? = some (.own m') ∧ (j = i ∧ m = .lst ds' ∨ j ≠ i ∧ m' = m) := fun {j m} hj => by
    by_cases z : j = i
    · subst z
      obtain ⟨z1, _⟩ := set_eq hj
      cases z1
      exact ⟨_, h, .inl ⟨rfl, rfl⟩⟩
    · rw [set_ne z] at hj
      exact ⟨m, hj, .inr ⟨z, rfl⟩⟩
  refine ⟨fun a u q => ?_, fun q hq => ?_, by rw [List.length_set]; exact e.len, e.lenm, fun j d hj => ?_, fun j m hj => ?_, fun j a m q y => ?_, fun a b m n q h1 h2 => ?_, fun a m q j h1 => ?_, e.mm, fun a u q h1 h2 => ?_, e.fold, e.fpre, e.fnew⟩
  · have z : a ≠ p := fun z => by rw [z, h2] at q; cases q
    rw [upd_ne z]
    exact e.sub a u q
  · obtain ⟨h1, ps, h3, h4⟩ := e.tab q hq
    have z : q ≠ p := fun z => pT (by rw [← z]; exact hq)
    exact ⟨h1, ps, by rw [upd_ne z]; exact h3, h4⟩
  · have z : j ≠ i := fun z => by
      subst z
      have := (set_eq hj).1
      cases this
    rw [set_ne z] at hj
    exact e.slot j d hj
  · obtain ⟨m', g1, g2⟩ := at' hj
    obtain ⟨q, k1, k2, k3, k4⟩ := e.own j m' g1
    rcases g2 with ⟨rfl, rfl⟩ | ⟨z, rfl⟩
    · rw [hp] at k1
      cases k1
      exact ⟨p, hp, k2, ⟨vs', upd_same, hr⟩, k4⟩
    · have z2 : q ≠ p := fun y => z (e.oo j i _ _ p g1 h (by rw [← y]; exact k1) hp)
      exact ⟨q, k1, k2, k3.mono (Sub.refl F) (List.prefix_refl _) (upd_ne z2), k4⟩
  · obtain ⟨b, c⟩ := e.obj j a m q y
    have z : a ≠ p := fun z => e.om i _ p j h hp (by rw [← z]; exact q)
    exact ⟨b, c.mono (Sub.refl F) (List.prefix_refl _) (upd_ne z)⟩
  · obtain ⟨m', g1, _⟩ := at' h1
    obtain ⟨n', g2, _⟩ := at' h2
    exact e.oo a b m' n' q g1 g2
  · obtain ⟨m', g1, _⟩ := at' h1
    exact e.om a m' q j g1
  · have z : a ≠ p := fun z => by rw [z, h4] at q; cases q
    rw [upd_ne z]
    exact e.frame a u q h1 h2

/-- behind a call: the caller's state again -/
theorem DE.back (e : DE K T B F fi sg H G mu) (s : Sub F F') (p : fi <+: fi') (e' : DE K T ⟨F, H, fi⟩ F' fi' [] H' [] mu') : DE K T B F' fi' sg H' G mu' where
  sub := e'.sub
  tab := e'.tab
  len := e.len
  lenm := e'.lenm
  slot := fun i d h => let ⟨v, a, b⟩ := e.slot i d h; ⟨v, a, b.mono s p⟩
  own := fun i m h => by
    obtain ⟨q, a, b, c, d⟩ := e.own i m h
    obtain ⟨o, ho, hn⟩ := c.some
    have nf : q ∉ fi := fun z => by
      obtain ⟨j, hj, ej⟩ := List.getElem_of_mem z
      exact e.om i m q j h a (by rw [List.getElem?_eq_getElem hj, ej])
    have h1 : H' q = some o := e'.frame q o ho nf (e.tabne ho hn)
    refine ⟨q, a, ?_, c.mono s p (h1.trans ho.symm), d⟩
    cases z : F' q with
    | none => rfl
    | some u =>
      rcases e'.fnew q u z with y | y
      · have y' : F q = some u := y
        rw [b] at y'
        cases y'
      · have y' : H q = none := y
        rw [ho] at y'
        cases y'
  obj := e'.obj
  oo := e.oo
  om := fun i m q j h1 h2 z => by
    obtain ⟨q', a, b, c, d⟩ := e.own i m h1
    rw [h2] at a
    cases a
    obtain ⟨o, ho, hn⟩ := c.some
    rcases e'.fpre q (List.mem_of_getElem? z) with y | y
    · have y' : q ∈ fi := y
      obtain ⟨j2, hj, ej⟩ := List.getElem_of_mem y'
      exact e.om i m q j2 h1 h2 (by rw [List.getElem?_eq_getElem hj, ej])
    · have y' : H q = none := y
      rw [ho] at y'
      cases y'
  mm := e'.mm
  frame := fun a o h1 h2 h3 => by
    have g := e.frame a o h1 h2 h3
    by_cases z : a ∈ fi
    · rcases e.fpre a z with y | y
      · exact absurd y h2
      · rw [h1] at y
        cases y
    · exact e'.frame a o g z h3
  fold := fun a h => p.subset (e.fold a h)
  fpre := fun a h => by
    rcases e'.fpre a h with y | y
    · exact e.fpre a y
    · exact .inr (e.old y)
  fnew := fun a o h => by
    rcases e'.fnew a o h with y | y
    · exact e.fnew a o y
    · exact .inr (e.old y)
theorem RpR.back (e : DE K T B F fi sg H G mu) (h : RpR K ⟨F, H, fi⟩ F' fi' [] H' [] v r) : RpR K B F' fi' sg H' G v r := by
  cases r with
  | dat d => exact h
  | new m =>
    obtain ⟨p, rfl, h1, h2, _, h4, h5⟩ := h
    have h5' : H p = none := h5
    refine ⟨p, rfl, h1, h2, fun i n hi z => ?_, h4, e.old h5'⟩
    obtain ⟨q, a, _, c, _⟩ := e.own i n hi
    rw [a] at z
    cases z
    obtain ⟨o, ho, _⟩ := c.some
    rw [h5'] at ho
    cases ho
  | bor i =>
    obtain ⟨h1, _⟩ := h
    simp at h1
/-- at a call: the callee's state -/
theorem DE.into (e : DE K T B F fi sg H G mu) : DE K T ⟨F, H, fi⟩ F fi [] H [] mu where
  sub := e.sub
  tab := e.tab
  len := rfl
  lenm := e.lenm
  slot := fun i d h => by simp at h
  own := fun i m h => by simp at h
  obj := e.obj
  oo := fun i j m n p h => by simp at h
  om := fun i m p j h => by simp at h
  mm := e.mm
  frame := fun a o h _ _ => h
  fold := fun a h => h
  fpre := fun a h => .inl h
  fnew := fun a o h => .inl h
/-- the parameters' slots -/
def start0 (n : Nat) (ds : List Dt) : List Cell := ds.map .val ++ List.replicate (n - ds.length) .no
theorem DE.start (e : DE K T B F fi [] H [] mu) {N : List Str} {vs : List V} {ds : List Dt} (h : RpL K F fi vs ds) : DE K T B F fi (L2.start N vs) H (start0 N.length ds) mu where
  sub := e.sub
  tab := e.tab
  len := by
    unfold L2.start start0
    rw [List.length_append, List.length_append, List.length_map, List.length_map, List.length_replicate, List.length_replicate, h.length]
  lenm := e.lenm
  slot := fun i d hi => by
    unfold start0 at hi
    unfold L2.start
    by_cases z : i < ds.length
    · rw [List.getElem?_append_left (by rw [List.length_map]; exact z), List.getElem?_map] at hi
      cases q : ds[i]? with
      | none => rw [q] at hi; cases hi
      | some d' =>
        rw [q] at hi
        cases hi
        obtain ⟨v, h1, h2⟩ := h.getD q
        refine ⟨v, ?_, h2⟩
        rw [List.getElem?_append_left (by rw [List.length_map, h.length]; exact z), List.getElem?_map, h1]
        rfl
    · rw [List.getElem?_append_right (by rw [List.length_map]; omega), List.getElem?_replicate] at hi
      split at hi <;> cases hi
  own := fun i d hi => by
    unfold start0 at hi
    by_cases z : i < ds.length
    · rw [List.getElem?_append_left (by rw [List.length_map]; exact z), List.getElem?_map] at hi
      cases q : ds[i]? with
      | none => rw [q] at hi; cases hi
      | some d' => rw [q] at hi; cases hi
    · rw [List.getElem?_append_right (by rw [List.length_map]; omega), List.getElem?_replicate] at hi
      split at hi <;> cases hi
  obj := e.obj
  oo := fun i j m n p hi => by
    unfold start0 at hi
    by_cases z : i < ds.length
    · rw [List.getElem?_append_left (by rw [List.length_map]; exact z), List.getElem?_map] at hi
      cases q : ds[i]? with
      | none => rw [q] at hi; cases hi
      | some d' => rw [q] at hi; cases hi
    · rw [List.getElem?_append_right (by rw [List.length_map]; omega), List.getElem?_replicate] at hi
      split at hi <;> cases hi
  om := fun i m p j hi => by
    unfold start0 at hi
    by_cases z : i < ds.length
    · rw [List.getElem?_append_left (by rw [List.length_map]; exact z), List.getElem?_map] at hi
      cases q : ds[i]? with
      | none => rw [q] at hi; cases hi
      | some d' => rw [q] at hi; cases hi
    · rw [List.getElem?_append_right (by rw [List.length_map]; omega), List.getElem?_replicate] at hi
      split at hi <;> cases hi
  mm := e.mm
  frame := e.frame
  fold := e.fold
  fpre := e.fpre
  fnew := e.fnew
end

/-! ### statements -/
section
variable {T : Tbs} {X : Cx} {W : WX} {G G' G1 G2 : List Cell} {mu mu1 mu2 : List Dt} {r : Res} {o : SOut} {e c : Expr} {st : Stmt} {rest a b : List Stmt} {pos pos' : Pos} {i : Nat} {d m : Dt} {x : Str}
theorem ss_nil : SDs T X W G mu [] (.nx G mu) := pss_imp pss_nil fun D sg H ⟨B, F, fi, e, q⟩ => q F fi sg H (Sub.refl F) (List.prefix_refl _) e
theorem post_next {K : PySem.W.Frag} {B : Bs} {F F' : Hp} {fi fi' : List Addr} {D : Ends} (s : Sub F F') (p : fi <+: fi') (h : postS K T W B F fi D o) : postS K T W B F' fi' D o := by
  cases o with
  | nx G mu => exact fun F2 fi2 sg' H' s2 p2 => h F2 fi2 sg' H' (s.trans s2) (p.trans p2)
  | ret r mu => exact fun v F2 fi2 H' s2 p2 => h v F2 fi2 H' (s.trans s2) (p.trans p2)
  | brk G mu => exact fun F2 fi2 sg' H' s2 p2 => h F2 fi2 sg' H' (s.trans s2) (p.trans p2)
  | ct G mu => exact fun F2 fi2 sg' H' s2 p2 => h F2 fi2 sg' H' (s.trans s2) (p.trans p2)
  | exc C fs mu => exact fun d F2 fi2 sg' H' s2 p2 => h d F2 fi2 sg' H' (s.trans s2) (p.trans p2)
theorem post_ends {K : PySem.W.Frag} {B : Bs} {F : Hp} {fi : List Addr} {D : Ends} {u : L2.St → Hp → Prop} (hn : ∀ G mu, o ≠ .nx G mu) (h : postS K T W B F fi D o) : postS K T W B F fi { D with nx := u } o := by
  cases o with
  | nx G mu => exact absurd rfl (hn G mu)
  | _ => exact h
theorem ss_cons (h1 : SD T X W G mu st (.nx G1 mu1)) (h2 : SDs T X W G1 mu1 rest o) : SDs T X W G mu (st :: rest) o :=
  pss_imp (pss_cons h1 h2) fun D sg H ⟨B, F, fi, e, q⟩ => ⟨B, F, fi, e, fun F' fi' sg' H' s p e' => ⟨B, F', fi', e', post_next s p q⟩⟩
theorem pss_never' {st : List Stmt} : PSs X st (fun _ _ _ => False) := ⟨fun _ _ _ _ _ _ h => h.elim⟩
/-- the statement leaves -/
theorem ss_stop (h1 : SD T X W G mu st o) (hn : ∀ G mu, o ≠ .nx G mu := by intro _ _ h; cases h) : SDs T X W G mu (st :: rest) o :=
  pss_imp (pss_cons h1 (pss_never' (st := rest))) fun D sg H ⟨B, F, fi, e, q⟩ => ⟨B, F, fi, e, post_ends hn q⟩
theorem ss_one (h1 : SD T X W G mu st o) : SDs T X W G mu [st] o := pss_one h1
theorem sd_weak (h : SD T X W G mu st (.nx G1 mu1)) (w : Wk G2 G1) : SD T X W G mu st (.nx G2 mu1) :=
  ps_imp h fun D sg H ⟨B, F, fi, e, q⟩ => ⟨B, F, fi, e, fun F' fi' sg' H' s p e' => q F' fi' sg' H' s p (e'.weak w)⟩
theorem ss_weak (h : SDs T X W G mu rest (.nx G1 mu1)) (w : Wk G2 G1) : SDs T X W G mu rest (.nx G2 mu1) :=
  pss_imp h fun D sg H ⟨B, F, fi, e, q⟩ => ⟨B, F, fi, e, fun F' fi' sg' H' s p e' => q F' fi' sg' H' s p (e'.weak w)⟩
theorem sd_pre (h : SD T X W G1 mu st o) (w : Wk G1 G) : SD T X W G mu st o :=
  ps_imp h fun D sg H ⟨B, F, fi, e, q⟩ => ⟨B, F, fi, e.weak w, q⟩
theorem ss_pre (h : SDs T X W G1 mu rest o) (w : Wk G1 G) : SDs T X W G mu rest o :=
  pss_imp h fun D sg H ⟨B, F, fi, e, q⟩ => ⟨B, F, fi, e.weak w, q⟩
theorem sd_pass : SD T X W G mu (.Pass pos) (.nx G mu) := ps_imp ps_pass fun D sg H ⟨B, F, fi, e, q⟩ => q F fi sg H (Sub.refl F) (List.prefix_refl _) e
theorem sd_break : SD T X W G mu (.Break pos) (.brk G mu) := ps_imp ps_break fun D sg H ⟨B, F, fi, e, q⟩ => q F fi sg H (Sub.refl F) (List.prefix_refl _) e
theorem sd_ifT (hc : EvT T X G mu c true mu1) (ha : SDs T X W G mu1 a o) : SD T X W G mu (.If c a b pos) o :=
  ps_imp (ps_if hc ha (pss_never' (st := b))) fun D sg H ⟨B, F, fi, e, q⟩ => ⟨B, F, fi, e, fun F' fi' H' s p e' => iteT ⟨B, F', fi', e', post_next s p q⟩⟩
theorem sd_ifF (hc : EvT T X G mu c false mu1) (hb : SDs T X W G mu1 b o) : SD T X W G mu (.If c a b pos) o :=
  ps_imp (ps_if hc (pss_never' (st := a)) hb) fun D sg H ⟨B, F, fi, e, q⟩ => ⟨B, F, fi, e, fun F' fi' H' s p e' => iteF ⟨B, F', fi', e', post_next s p q⟩⟩
/-- an if whose branch isn't taken and that has no else -/
theorem sd_if0 (hc : EvT T X G mu c false mu1) : SD T X W G mu (.If c a [] pos) (.nx G mu1) := sd_ifF hc ss_nil
theorem sd_ret (he : EvD T X G mu e (.dat d) mu1) : SD T X W G mu (.Return (some e) pos) (.ret (.dat d) mu1) :=
  ps_imp (ps_ret he) fun D sg H ⟨B, F, fi, e, q⟩ => ⟨B, F, fi, e, fun v F' fi' H' s p e' h' => q v F' fi' H' s p e'.strip h'⟩
theorem RpR.newStrip {K : PySem.W.Frag} {B : Bs} {F : Hp} {fi : List Addr} {sg : L2.St} {H : Hp} {v : V} (h : RpR K B F fi sg H G v (.new m)) : RpR K B F fi [] H [] v (.new m) := by
  obtain ⟨p, rfl, h1, h2, _, h4, h5⟩ := h
  exact ⟨p, rfl, h1, h2, fun i n hi => by simp at hi, h4, h5⟩
theorem sd_retN (he : EvD T X G mu e (.new m) mu1) : SD T X W G mu (.Return (some e) pos) (.ret (.new m) mu1) :=
  ps_imp (ps_ret he) fun D sg H ⟨B, F, fi, e, q⟩ => ⟨B, F, fi, e, fun v F' fi' H' s p e' h' => q v F' fi' H' s p e'.strip h'.newStrip⟩
theorem sd_retB (he : EvD T X G mu e (.bor i) mu1) (hG : G[i]? = some (.own m) := by rfl) : SD T X W G mu (.Return (some e) pos) (.ret (.new m) mu1) :=
  ps_imp (ps_ret he) fun D sg H ⟨B, F, fi, e, q⟩ => ⟨B, F, fi, e, fun v F' fi' H' s p e' h' => by
    obtain ⟨v', h1, e2, h2⟩ := e'.out hG
    obtain ⟨h3, _⟩ := h'
    rw [h1] at h3
    cases h3
    exact q _ F' fi' H' s p e2.strip h2.newStrip⟩
/-- a new list given up at the return -/
theorem sd_retD (he : SD T X W G mu st (.ret (.new m) mu1)) : SD T X W G mu st (.ret (.dat m) mu1) :=
  ps_imp he fun D sg H ⟨B, F, fi, e, q⟩ => ⟨B, F, fi, e, fun v F' fi' H' s p e' h' => by
    obtain ⟨F2, s2, e2, h2⟩ := e'.freeze h'
    exact q v F2 fi' H' (s.trans s2) p e2 h2⟩
theorem sd_ret0 : SD T X W G mu (.Return none pos) (.ret (.dat .non) mu) :=
  ps_imp ps_retN fun D sg H ⟨B, F, fi, e, q⟩ => q _ F fi H (Sub.refl F) (List.prefix_refl _) e.strip .non
/-- a new object given up -/
theorem ev_give (he : EvD T X G mu e (.new m) mu1) : EvD T X G mu e (.dat m) mu1 :=
  pe_imp he fun sg H Q ⟨B, F, fi, e, q⟩ => ⟨B, F, fi, e, fun v F' fi' H' s p e' h' => by
    obtain ⟨F2, s2, e2, h2⟩ := e'.freeze h'
    exact q v F2 fi' H' (s.trans s2) p e2 h2⟩
section
variable (hN : X.N.Nodup) (hi : X.N[i]? = some x) (hx : Loc X.env.scope x)
/-- x = e -/
theorem sd_set (hN : X.N.Nodup) (i : Nat) (he : EvD T X G mu e (.dat d) mu1) (hi : X.N[i]? = some x := by rfl) (hx : Loc X.env.scope x := by first | exact Or.inl rfl | exact Or.inr rfl) (hs : swapsWith e (some (.Name x pos')) pos.line X.env = pure false := by rfl)
    (hf : X.fn x = true ∨ X.env.scope.names.lookup x = some .local := by first | exact .inl rfl | exact .inr rfl) : SD T X W G mu (.Assign [.Name x pos'] e pos) (.nx (G.set i (.val d)) mu1) :=
  ps_imp (ps_set hN hi hx he hs hf) fun D sg H ⟨B, F, fi, e, q⟩ => ⟨B, F, fi, e, fun v F' fi' H' s p e' h' => q F' fi' _ H' s p (e'.setV h')⟩
theorem sd_setN (hN : X.N.Nodup) (i : Nat) (he : EvD T X G mu e (.new m) mu1) (hi : X.N[i]? = some x := by rfl) (hx : Loc X.env.scope x := by first | exact Or.inl rfl | exact Or.inr rfl) (hs : swapsWith e (some (.Name x pos')) pos.line X.env = pure false := by rfl)
    (hf : X.fn x = true ∨ X.env.scope.names.lookup x = some .local := by first | exact .inl rfl | exact .inr rfl) : SD T X W G mu (.Assign [.Name x pos'] e pos) (.nx (G.set i (.own m)) mu1) :=
  ps_imp (ps_set hN hi hx he hs hf) fun D sg H ⟨B, F, fi, e, q⟩ => ⟨B, F, fi, e, fun v F' fi' H' s p e' h' => q F' fi' _ H' s p (e'.setO h')⟩
/-- x = y, y's own object moves -/
theorem sd_move (hN : X.N.Nodup) (i : Nat) {j : Nat} (he : EvD T X G mu e (.bor j) mu1) (hG : G[j]? = some (.own m) := by rfl) (hi : X.N[i]? = some x := by rfl) (hx : Loc X.env.scope x := by first | exact Or.inl rfl | exact Or.inr rfl) (hs : swapsWith e (some (.Name x pos')) pos.line X.env = pure false := by rfl)
    (hf : X.fn x = true ∨ X.env.scope.names.lookup x = some .local := by first | exact .inl rfl | exact .inr rfl) : SD T X W G mu (.Assign [.Name x pos'] e pos) (.nx ((G.set j .no).set i (.own m)) mu1) :=
  ps_imp (ps_set hN hi hx he hs hf) fun D sg H ⟨B, F, fi, e, q⟩ => ⟨B, F, fi, e, fun v F' fi' H' s p e' h' => by
    obtain ⟨v', h1, e2, h2⟩ := e'.out hG
    obtain ⟨h3, _⟩ := h'
    rw [h1] at h3
    cases h3
    exact q F' fi' _ H' s p (e2.setO h2)⟩
end
/-- x.append(e), x's own list -/
theorem sd_append {v' : Expr} {ds : List Dt} {apos : Pos} (i : Nat) (hx : EvD T X G mu e (.bor i) mu) (he : EvD T X G mu v' (.dat d) mu1) (hz : ds.length < 1000000) (hG : G[i]? = some (.own (.lst ds)) := by rfl)
    (hbase : attributeBase e "append" X.env (eval e X.env) = eval e X.env := by rfl)
    (hfew : ((backTo pos (starEach [v'] X.env)).all (fun x => !x.1) && (backToKw pos (keywordEach [] X.env)).all (fun x => x.1.isSome) && decide ([v'].length + ([] : List Keyword).length + (if ([] : List Keyword).isEmpty then 0 else 1) < 30)) = true := by rfl)
    (hline : (apos.endLine == pos.line) = true := by rfl) (hs : starEach [v'] X.env = (false, eval v' X.env) :: starEach [] X.env := by rfl) (hplain : (backTo pos (starEach [] X.env)).any (·.1) = false := by rfl)
    (hsw : swapsWith (.Call (.Attribute e "append" apos) [v'] [] pos) none pos'.line X.env = pure false := by rfl) :
    SD T X W G mu (.Expr (.Call (.Attribute e "append" apos) [v'] [] pos) pos') (.nx (G.set i (.own (.lst (ds ++ [d])))) mu1) := by
  refine ps_imp (ps_expr (pe_bm PySem.F.plainAttrs_list PySem.F.slot_list_append PySem.F.type_list_append mt_append hx (ea_cons he ea_nil hs) hbase hfew hline hs hplain) hsw) fun D sg H ⟨B, F, fi, e, q⟩ => ?_
  refine ⟨B, F, fi, e, fun v F1 fi1 H1 s1 p1 e1 h1 => ?_⟩
  obtain ⟨g1, _⟩ := h1
  obtain ⟨p, k1, _, ⟨vs, k2, _⟩, _⟩ := e1.own i _ hG
  rw [g1] at k1
  cases k1
  refine ⟨.inl ⟨rfl, vs, SqL.of k2⟩, B, F1, fi1, e1, fun us F2 fi2 H2 s2 p2 e2 h2 => ?_⟩
  obtain ⟨p', k1', _, ⟨ws, k2', k3'⟩, _⟩ := e2.own i _ hG
  rw [g1] at k1'
  cases k1'
  cases h2 with
  | cons hu hn =>
    cases hn
    refine ⟨p, ws, _, rfl, rfl, k2', ?_, ?_⟩
    · rw [k3'.length]
      exact Nat.lt_of_lt_of_le hz (by rw [sizeLine_eq]; decide)
    · exact q F2 fi2 _ _ (s1.trans s2) (p1.trans p2) (e2.chg hG g1 (k3'.append (.cons hu .nil)))
end

/-! ### a def's contract, its call -/
def postF (K : PySem.W.Frag) (T : Tbs) (B : Bs) (F : Hp) (fi : List Addr) (Q : VK) (E : XK) : SOut → Prop
  | .ret r mu => ∀ v F' fi' H', Sub F F' → fi <+: fi' → DE K T B F' fi' [] H' [] mu → RpR K B F' fi' [] H' [] v r → Q v H'
  | .exc C fs mu => ∀ d F' fi' H', Sub F F' → fi <+: fi' → DE K T B F' fi' [] H' [] mu → Xd K F' fi' H' d fs → E (.ref C) d H'
  | _ => False
/-- what a def does: its arguments, the shared objects, its end -/
abbrev FSpec := List Dt → List Dt → SOut → Prop
def spD (K : PySem.W.Frag) (T : Tbs) (S : FSpec) : Sp := fun vs H Q E => ∃ F fi mu ds o, DE K T ⟨F, H, fi⟩ F fi [] H [] mu ∧ RpL K F fi vs ds ∧ S ds mu o ∧ postF K T ⟨F, H, fi⟩ F fi Q E o
/-- a def stands by its contract, under the module's name x -/
structure FnG (P : Program) (w : World) (K : PySem.W.Frag) (mg : Str → Option Value) (base : Heap) (T : Tbs) (k : Nat) (x : Str) (S : FSpec) : Prop where
  ex : ∃ (f : Addr) (fd : FuncData) (ps : List Str), mg x = some (.ref f) ∧ PySem.W.keepIn K (.ref f) = true ∧ Binds K fd ps [] ∧ FnOk P w K mg base (L2.CX P w) k f fd ps (spD K T S)
/-- the end of a body as the def's end -/
inductive EndF : SOut → SOut → Prop
  | same {o : SOut} : (∀ G mu, o ≠ .nx G mu) → (∀ G mu, o ≠ .brk G mu) → (∀ G mu, o ≠ .ct G mu) → EndF o o
  | fall {G : List Cell} {mu : List Dt} : EndF (.nx G mu) (.ret (.dat .non) mu)
theorem EndF.ret {r : Res} {mu : List Dt} : EndF (.ret r mu) (.ret r mu) := .same (by intro _ _ h; cases h) (by intro _ _ h; cases h) (by intro _ _ h; cases h)
theorem EndF.exc {C : Addr} {fs : List (Str × Dt)} {mu : List Dt} : EndF (.exc C fs mu) (.exc C fs mu) := .same (by intro _ _ h; cases h) (by intro _ _ h; cases h) (by intro _ _ h; cases h)
abbrev cxD (P : Program) (w : World) (K : PySem.W.Frag) (mg : Str → Option Value) (base : Heap) (N : List Str) (qual : Str) (scope : Scope) (f : Addr) (cd : Value) (A : Around) (outer : List Env) (s : Shared) (H : Hp) (E : XK) : Cx := cxOf (L2.CX P w) P w K mg base N qual scope f cd A outer s H E
abbrev wxE (E : XK) : WX := fun cls d _ H => E cls d H
section
variable {P : Program} {w : World} {K : PySem.W.Frag} {mg : Str → Option Value} {base : Heap} {T : Tbs} {k : Nat}
theorem fn_D {x qual : Str} {st : Stmt} {f : Addr} {fd : FuncData} {N ps : List Str} {S : FSpec} (Fu : Fun K x qual st f fd) (Sc : FnScope N ps (defScope st)) (len : ∀ ds mu o, S ds mu o → ds.length = ps.length)
    (body : ∀ (cdv : Value) (A : Around) (outer : List Env) (s : Shared) (H : Hp) (E : XK) (X : Cx), X = cxD P w K mg base N qual (defScope st) f cdv A outer s H E → Room k X.A → ∀ ds mu o, S ds mu o → ∃ o', EndF o' o ∧ SDs T (cxD P w K mg base N qual (defScope st) f cdv A outer s H E) (wxE E) (start0 N.length ds) mu (defBody st) o') :
    FnOk P w K mg base (L2.CX P w) (k + 1) f fd ps (spD K T S) := by
  refine Fu.okX Sc (fun vs H Q E h => ?_) fun cdv A outer s H vs Q E hr h => ?_
  · obtain ⟨F, fi, mu, ds, o, _, h2, h3, _⟩ := h
    rw [h2.length]
    exact len ds mu o h3
  · obtain ⟨F, fi, mu, ds, o, h1, h2, h3, h4⟩ := h
    obtain ⟨o', h5, h6⟩ := body cdv A outer s H E _ rfl hr ds mu o h3
    refine ⟨_, h6, ⟨F, H, fi⟩, F, fi, h1.start h2, ?_⟩
    cases h5 with
    | same n1 n2 n3 =>
      cases o with
      | ret r mu => exact h4
      | exc C fs mu => exact fun d F' fi' _ H' => h4 d F' fi' H'
      | nx G mu => exact absurd rfl (n1 G mu)
      | brk G mu => exact absurd rfl (n2 G mu)
      | ct G mu => exact absurd rfl (n3 G mu)
    | fall => exact fun F' fi' sg' H' s p e' => h4 _ F' fi' H' s p e'.strip .non
theorem FnG.mono {x : Str} {S : FSpec} {j : Nat} (h : FnG P w K mg base T j x S) (hj : j ≤ k) : FnG P w K mg base T k x S := by
  obtain ⟨f, fd, ps, h1, h2, h3, h4⟩ := h.ex
  exact ⟨f, fd, ps, h1, h2, h3, h4.mono hj⟩
end
section
variable {T : Tbs} {X : Cx} {W : WX} {G : List Cell} {mu mu1 mu2 : List Dt} {r : Res} {rs : List Res} {ds : List Dt} {e : Expr} {es : List Expr} {pos p : Pos} {x : Str} {S : FSpec} {k : Nat} {C : Addr} {fs : List (Str × Dt)}
/-- f(e, ..) that comes back -/
theorem ev_call (g : FnG X.prog X.w X.K X.mg X.base T k x S) (hr : Room k X.A) (ha : EvA T X G mu (e :: es) rs mu1) (hd : Dats rs ds) (hS : S ds mu1 (.ret r mu2)) (hb : ∀ i, r ≠ .bor i := by intro i h; cases h) (hg : Gl X x := by rfl) (hdb : (x == ("__debug__" : Str)) = false := by decide)
    (he : starEach (e :: es) X.env = (false, eval e X.env) :: starEach es X.env := by rfl) (hpl : (backTo pos (starEach es X.env)).any (·.1) = false := by rfl) : EvD T X G mu (.Call (.Name x p) (e :: es) [] pos) r mu2 := by
  obtain ⟨f, fd, ps, h1, h2, h3, h4⟩ := g.ex
  refine pe_imp (pe_call h4 hr hg h1 h2 h3 .nil passL ha hdb he hpl) fun sg H Q ⟨B, F, fi, e, q⟩ => ?_
  refine ⟨B, F, fi, e, fun vs F1 fi1 H1 s1 p1 e1 m1 => ?_⟩
  show spD X.K T S (vs ++ []) H1 Q E0
  rw [List.append_nil]
  exact ⟨F1, fi1, mu1, ds, _, e1.into, m1.dats hd, hS, fun v F' fi' H' s p e' m => q v F' fi' H' (s1.trans s) (p1.trans p) (e1.back s p e') (m.back e1)⟩
theorem ev_call0 (g : FnG X.prog X.w X.K X.mg X.base T k x S) (hr : Room k X.A) (hS : S [] mu (.ret r mu2)) (hg : Gl X x := by rfl) (hdb : (x == ("__debug__" : Str)) = false := by decide) : EvD T X G mu (.Call (.Name x p) [] [] pos) r mu2 := by
  obtain ⟨f, fd, ps, h1, h2, h3, h4⟩ := g.ex
  refine pe_imp (pe_call0 h4 hr hg h1 h2 h3 .nil passL hdb) fun sg H Q ⟨B, F, fi, e, q⟩ => ?_
  exact ⟨F, fi, mu, [], _, e.into, .nil, hS, fun v F' fi' H' s p e' m => q v F' fi' H' s p (e.back s p e') (m.back e)⟩
/-- an expression that raises -/
def rdX (K : PySem.W.Frag) (T : Tbs) (W : WX) (G : List Cell) (mu : List Dt) (C : Addr) (fs : List (Str × Dt)) (mu' : List Dt) : TE := fun sg H Q =>
  ∃ B F fi, DE K T B F fi sg H G mu ∧ ∀ d F' fi' H', Sub F F' → fi <+: fi' → DE K T B F' fi' sg H' G mu' → Xd K F' fi' H' d fs → W (.ref C) d sg H'
abbrev EvX (T : Tbs) (X : Cx) (W : WX) (G : List Cell) (mu : List Dt) (e : Expr) (C : Addr) (fs : List (Str × Dt)) (mu' : List Dt) : Prop := PE X e (rdX X.K T W G mu C fs mu')
theorem ex_call (tk : Takes X W) (g : FnG X.prog X.w X.K X.mg X.base T k x S) (hr : Room k X.A) (ha : EvA T X G mu (e :: es) rs mu1) (hd : Dats rs ds) (hS : S ds mu1 (.exc C fs mu2)) (hg : Gl X x := by rfl) (hdb : (x == ("__debug__" : Str)) = false := by decide)
    (he : starEach (e :: es) X.env = (false, eval e X.env) :: starEach es X.env := by rfl) (hpl : (backTo pos (starEach es X.env)).any (·.1) = false := by rfl) : EvX T X W G mu (.Call (.Name x p) (e :: es) [] pos) C fs mu2 := by
  obtain ⟨f, fd, ps, h1, h2, h3, h4⟩ := g.ex
  refine pe_imp (pe_callS h4 hr hg h1 h2 h3 (fun sg => passAt tk sg) ha hdb he hpl) fun sg H Q ⟨B, F, fi, e, q⟩ => ?_
  refine ⟨B, F, fi, e, fun vs F1 fi1 H1 s1 p1 e1 m1 => ?_⟩
  exact ⟨F1, fi1, mu1, ds, _, e1.into, m1.dats hd, hS, fun d F' fi' H' s p e' m => q d F' fi' H' (s1.trans s) (p1.trans p) (e1.back s p e') m⟩
theorem sx_expr {pos' : Pos} (h : EvX T X W G mu e C fs mu1) (hs : swapsWith e none pos'.line X.env = pure false := by rfl) : SD T X W G mu (.Expr e pos') (.exc C fs mu1) :=
  ps_imp (ps_expr h hs) fun D sg H ⟨B, F, fi, e, q⟩ => ⟨B, F, fi, e, fun d F' fi' H' s p e' m => q d F' fi' sg H' s p e'.strip m⟩
theorem sx_ret {pos' : Pos} (h : EvX T X W G mu e C fs mu1) : SD T X W G mu (.Return (some e) pos') (.exc C fs mu1) :=
  ps_imp (ps_ret h) fun D sg H ⟨B, F, fi, e, q⟩ => ⟨B, F, fi, e, fun d F' fi' H' s p e' m => q d F' fi' sg H' s p e'.strip m⟩
/-- an expression for its own sake -/
theorem sd_expr {pos' : Pos} (h : EvD T X G mu e r mu1) (hs : swapsWith e none pos'.line X.env = pure false := by rfl) : SD T X W G mu (.Expr e pos') (.nx G mu1) :=
  ps_imp (ps_expr h hs) fun D sg H ⟨B, F, fi, e, q⟩ => ⟨B, F, fi, e, fun v F' fi' H' s p e' _ => q F' fi' sg H' s p e'⟩
end
end Dl

set_option Elab.async false
set_option linter.all false
set_option maxRecDepth 100000
set_option maxHeartbeats 4000000
/-! Dl5: what is walked, targets, list comprehensions. -/
namespace Dl
open PySem PySem.Spec PyProof.Rows L2
section
variable {K : PySem.W.Frag} {T : Tbs} {B : Bs} {F F' : Hp} {fi fi' : List Addr} {sg sg' : L2.St} {H H' : Hp} {G G' : List Cell} {mu mu1 mu2 mu' : List Dt} {v : V} {r r1 r2 : Res} {d m : Dt} {i : Nat}
/-- what is yielded: known data, or a new tuple -/
def Yl (K : PySem.W.Frag) (F : Hp) (fi : List Addr) (H : Hp) (x : V) (H' : Hp) (d : Dt) : Prop :=
  (H' = H ∧ Rp K F fi x d) ∨ ∃ p vs ds, x = .ref p ∧ H p = none ∧ H' = upd H p (.tup vs) ∧ RpL K F fi vs ds ∧ d = .tup ds
/-- J yields the data xs, as long as F stays -/
structure Feeds (K : PySem.W.Frag) (J : It) (F : Hp) (fi : List Addr) (xs : List Dt) : Prop where
  go : ∀ (i : Nat) (d : Dt) (H : Hp), Sub F H → xs[i]? = some d → J.go i H ∧ ∀ x H', J.yld i H x H' → Yl K F fi H x H' d
  stop : ∀ H : Hp, Sub F H → J.stop xs.length H
def rdI (K : PySem.W.Frag) (T : Tbs) (G : List Cell) (mu : List Dt) (xs : List Dt) (mu' : List Dt) : TI := fun sg H R =>
  ∃ B F fi, DE K T B F fi sg H G mu ∧ ∀ F' fi' H' J, Sub F F' → fi <+: fi' → DE K T B F' fi' sg H' G mu' → Feeds K J F' fi' xs → R J H'
abbrev EvI (T : Tbs) (X : Cx) (G : List Cell) (mu : List Dt) (tg iter : Expr) (xs : List Dt) (mu' : List Dt) : Prop := PI X tg iter (rdI X.K T G mu xs mu')
theorem pi_imp {X : Cx} {tg e : Expr} {t t' : TI} (h : PI X tg e t) (i : ∀ sg H R, t' sg H R → t sg H R) : PI X tg e t' := ⟨fun pins s sg H R I q => h.run pins s sg H R I (i sg H R q)⟩
theorem Yl.at (e : DE K T B F fi sg H G mu) {x : V} (h : Yl K F fi H x H' d) : ∃ F', Sub F F' ∧ DE K T B F' fi sg H' G mu ∧ Rp K F' fi x d := by
  rcases h with ⟨rfl, h⟩ | ⟨p, vs, ds, rfl, hp, rfl, hr, rfl⟩
  · exact ⟨F, Sub.refl F, e, h⟩
  · exact e.newT hp hr
theorem Yl.mono (s : Sub F F') (p : fi <+: fi') {x : V} (h : Yl K F fi H x H' d) : Yl K F' fi' H x H' d := by
  rcases h with ⟨rfl, h⟩ | ⟨q, vs, ds, rfl, hp, rfl, hr, rfl⟩
  · exact .inl ⟨rfl, h.mono s p⟩
  · exact .inr ⟨q, vs, ds, rfl, hp, rfl, hr.mono s p, rfl⟩
/-- the list at a, which stays -/
theorem Feeds.list {a : Addr} {vs : List V} {ds : List Dt} (h : F a = some (.lst vs)) (r : RpL K F fi vs ds) : Feeds K (Itl K a) F fi ds where
  go := fun i d H s hi => by
    obtain ⟨v, h1, h2⟩ := r.getD hi
    refine ⟨⟨vs, v, SqL.of (s _ _ h), h1⟩, fun x H' y => .inl ⟨y.1, ?_⟩⟩
    have e := y.2 vs (SqL.of (s _ _ h))
    rw [h1] at e
    cases e
    exact h2
  stop := fun H s => ⟨vs, SqL.of (s _ _ h), by rw [r.length]; exact Nat.le_refl _⟩
theorem Feeds.tup {a : Addr} {vs : List V} {ds : List Dt} (h : F a = some (.tup vs)) (r : RpL K F fi vs ds) : Feeds K (Itt K a) F fi ds where
  go := fun i d H s hi => by
    obtain ⟨v, h1, h2⟩ := r.getD hi
    refine ⟨⟨vs, v, SqT.of (s _ _ h), h1⟩, fun x H' y => .inl ⟨y.1, ?_⟩⟩
    have e := y.2 vs (SqT.of (s _ _ h))
    rw [h1] at e
    cases e
    exact h2
  stop := fun H s => ⟨vs, SqT.of (s _ _ h), by rw [r.length]; exact Nat.le_refl _⟩
/-- lo, lo + 1, .. -/
def rngD (lo : Int) (n : Nat) : List Dt := (List.range n).map fun i : Nat => Dt.int (lo + (i : Int))
theorem Feeds.rng {lo : Int} {n : Nat} : Feeds K (Itr lo n) F fi (rngD lo n) where
  go := fun i d H s hi => by
    unfold rngD at hi
    rw [List.getElem?_map] at hi
    have hn : i < n := by
      cases q : (List.range n)[i]? with
      | none => rw [q] at hi; cases hi
      | some j =>
        have := (List.getElem?_eq_some_iff.mp q).1
        rwa [List.length_range] at this
    rw [List.getElem?_range hn] at hi
    cases hi
    refine ⟨hn, fun x H' y => .inl ⟨y.1, ?_⟩⟩
    rw [y.2]
    exact .int _
  stop := fun H s => by
    show n ≤ (rngD lo n).length
    unfold rngD
    rw [List.length_map, List.length_range]
    exact Nat.le_refl _
/-- a slot's own things, by address -/
def IsOwn (sg : L2.St) (G : List Cell) (a : Addr) : Prop := ∃ (i : Nat) (m : Dt), G[i]? = some (.own m) ∧ sg[i]? = some (some (.ref a))
open Classical in
/-- the entry, from here on: all but the slots' own objects -/
noncomputable def Bs.now (F : Hp) (fi : List Addr) (sg : L2.St) (H : Hp) (G : List Cell) : Bs := ⟨F, fun a => if IsOwn sg G a then none else H a, fi⟩
theorem now_own {a : Addr} (h : IsOwn sg G a) : (Bs.now F fi sg H G).H a = none := if_pos h
theorem now_not {a : Addr} (h : ¬ IsOwn sg G a) : (Bs.now F fi sg H G).H a = H a := if_neg h
theorem now_some {a : Addr} {o : HO} (h : (Bs.now F fi sg H G).H a = some o) : H a = some o ∧ ¬ IsOwn sg G a := by
  by_cases z : IsOwn sg G a
  · rw [now_own z] at h
    cases h
  · rw [now_not z] at h
    exact ⟨h, z⟩
theorem DE.now (e : DE K T B F fi sg H G mu) : DE K T (Bs.now F fi sg H G) F fi sg H G mu where
  sub := e.sub
  tab := e.tab
  len := e.len
  lenm := e.lenm
  slot := e.slot
  own := fun i m h => by
    obtain ⟨p, a, b, c, d⟩ := e.own i m h
    exact ⟨p, a, b, c, now_own ⟨i, m, h, a⟩⟩
  obj := e.obj
  oo := e.oo
  om := e.om
  mm := e.mm
  frame := fun a o h _ _ => (now_some h).1
  fold := fun a h => h
  fpre := fun a h => .inl h
  fnew := fun a o h => .inl h
/-- .. and back -/
theorem DE.then (e : DE K T B F fi sg H G mu) (e' : DE K T (Bs.now F fi sg H G) F' fi' sg H' G mu') (s : Sub F F') : DE K T B F' fi' sg H' G mu' where
  sub := e'.sub
  tab := e'.tab
  len := e'.len
  lenm := e'.lenm
  slot := e'.slot
  own := fun i m h => by
    obtain ⟨p, a, b, c, d⟩ := e'.own i m h
    obtain ⟨p', a', _, _, d'⟩ := e.own i m h
    rw [a] at a'
    cases a'
    exact ⟨p, a, b, c, d'⟩
  obj := e'.obj
  oo := e'.oo
  om := e'.om
  mm := e'.mm
  frame := fun a o h1 h2 h3 => by
    have g := e.frame a o h1 h2 h3
    have no : ¬ IsOwn sg G a := fun ⟨i, m, z1, z2⟩ => by
      obtain ⟨p, a', _, _, d⟩ := e.own i m z1
      rw [z2] at a'
      cases a'
      rw [h1] at d
      cases d
    have nf : a ∉ fi := fun z => by
      rcases e.fpre a z with y | y
      · exact h2 y
      · rw [h1] at y
        cases y
    exact e'.frame a o (by rw [now_not no]; exact g) nf h3
  fold := fun a h => e'.fold a (e.fold a h)
  fpre := fun a h => by
    rcases e'.fpre a h with y | y
    · exact e.fpre a y
    · by_cases no : IsOwn sg G a
      · obtain ⟨i, m, z1, z2⟩ := no
        obtain ⟨p, a', _, _, d⟩ := e.own i m z1
        rw [z2] at a'
        cases a'
        exact .inr d
      · rw [now_not no] at y
        exact .inr (e.old y)
  fnew := fun a o h => by
    rcases e'.fnew a o h with y | y
    · exact e.fnew a o y
    · by_cases no : IsOwn sg G a
      · obtain ⟨i, m, z1, z2⟩ := no
        obtain ⟨p, a', _, _, d⟩ := e.own i m z1
        rw [z2] at a'
        cases a'
        exact .inr d
      · rw [now_not no] at y
        exact .inr (e.old y)
/-- an object that nobody knows of is changed -/
theorem DE.touch (e : DE K T B F fi sg H G mu) {p : Addr} {o : HO} (h1 : F p = none) (h2 : ∀ (i : Nat) (n : Dt), G[i]? = some (.own n) → sg[i]? ≠ some (some (.ref p))) (h3 : ∀ j : Nat, fi[j]? ≠ some p) (h4 : p ∉ T) (h5 : B.H p = none) : DE K T B F fi sg (upd H p o) G mu where
  sub := fun a u q => by
    have z : a ≠ p := fun z => by rw [z, h1] at q; cases q
    rw [upd_ne z]
    exact e.sub a u q
  tab := fun q hq => by
    obtain ⟨g1, ps, g3, g4⟩ := e.tab q hq
    have z : q ≠ p := fun z => h4 (by rw [← z]; exact hq)
    exact ⟨g1, ps, by rw [upd_ne z]; exact g3, g4⟩
  len := e.len
  lenm := e.lenm
  slot := e.slot
  own := fun i m h => by
    obtain ⟨q, a, b, c, d⟩ := e.own i m h
    have z : q ≠ p := fun z => h2 i m h (by rw [← z]; exact a)
    exact ⟨q, a, b, c.mono (Sub.refl F) (List.prefix_refl _) (upd_ne z), d⟩
  obj := fun j a m q y => by
    obtain ⟨b, c⟩ := e.obj j a m q y
    have z : a ≠ p := fun z => h3 j (by rw [← z]; exact q)
    exact ⟨b, c.mono (Sub.refl F) (List.prefix_refl _) (upd_ne z)⟩
  oo := e.oo
  om := e.om
  mm := e.mm
  frame := fun a u q g1 g2 => by
    have z : a ≠ p := fun z => by rw [z, h5] at q; cases q
    rw [upd_ne z]
    exact e.frame a u q g1 g2
  fold := e.fold
  fpre := e.fpre
  fnew := e.fnew
theorem Yl.at2 (e : DE K T B F fi sg H G mu) {x : V} (h : Yl K F fi H x H' d) {D : Addr} (hn : RpR K B F fi sg H G (.ref D) (.new m)) : ∃ F', Sub F F' ∧ DE K T B F' fi sg H' G mu ∧ Rp K F' fi x d ∧ RpR K B F' fi sg H' G (.ref D) (.new m) := by
  rcases h with ⟨rfl, h⟩ | ⟨p, vs, ds, rfl, hp, rfl, hr, rfl⟩
  · exact ⟨F, Sub.refl F, e, h, hn⟩
  · obtain ⟨q, z, h1, h2, h3, h4, h5⟩ := hn
    cases z
    obtain ⟨k1, k2, k3, k4, k5⟩ := e.put hp (.tup vs)
    obtain ⟨o, ho, _⟩ := h2.some
    have ne : D ≠ p := fun z => by rw [z, hp] at ho; cases ho
    refine ⟨_, Sub.new k2, k1.grow upd_same k2 k5 (fun q z => by cases z) k3 k4, .tup upd_same (hr.mono (Sub.new k2) (List.prefix_refl _)), D, rfl, by rw [upd_ne ne]; exact h1, h2.mono (Sub.new k2) (List.prefix_refl _) (upd_ne ne), h3, h4, h5⟩
end

/-! ### what is walked -/
section
variable {T : Tbs} {X : Cx} {G : List Cell} {mu mu1 mu2 : List Dt} {r r1 r2 : Res} {e a b tg : Expr} {pos p : Pos}
theorem ei_list {ds : List Dt} (h : EvD T X G mu e (.dat (.lst ds)) mu1) : EvI T X G mu tg e ds mu1 := by
  refine pi_imp (pi_list h) fun sg H R ⟨B, F, fi, e, q⟩ => ⟨B, F, fi, e, fun v F1 fi1 H1 s1 p1 e1 h1 => ?_⟩
  cases h1 with
  | lst g m => exact ⟨_, rfl, ⟨_, SqL.of (e1.sub _ _ g)⟩, q F1 fi1 H1 _ s1 p1 e1 (.list g m)⟩
theorem ei_tup {ds : List Dt} (h : EvD T X G mu e (.dat (.tup ds)) mu1) : EvI T X G mu tg e ds mu1 := by
  refine pi_imp (pi_tup h) fun sg H R ⟨B, F, fi, e, q⟩ => ⟨B, F, fi, e, fun v F1 fi1 H1 s1 p1 e1 h1 => ?_⟩
  cases h1 with
  | tup g m => exact ⟨_, rfl, ⟨_, SqT.of (e1.sub _ _ g)⟩, q F1 fi1 H1 _ s1 p1 e1 (.tup g m)⟩
theorem ei_range1 {n : Int} (h : EvD T X G mu a r mu1) (hm : X.mg "range" = none) (h0 : -(2 ^ 62) ≤ n) (h1 : n < 2 ^ 62) (l : look G r = some (.int n) := by rfl) (hg : Gl X "range" := by rfl) (hs : starEach [a] X.env = [(false, eval a X.env)] := by rfl) : EvI T X G mu tg (.Call (.Name "range" p) [a] [] pos) (rngD 0 n.toNat) mu1 := by
  refine pi_imp (pi_range1 hg hm (ea_cons h ea_nil (by rw [hs]; rfl)) hs) fun sg H R ⟨B, F, fi, e, q⟩ => ⟨B, F, fi, e, fun vs F1 fi1 H1 s1 p1 e1 m1 => ?_⟩
  cases m1 with
  | cons m1 m2 =>
    cases m2
    have ev := (e1.viewH m1 l).int
    subst ev
    exact ⟨n, rfl, h0, h1, q F1 fi1 H1 _ s1 p1 e1 .rng⟩
theorem ei_range2 {i j : Int} (ha : EvD T X G mu a r1 mu1) (hb : EvD T X G mu1 b r2 mu2) (hm : X.mg "range" = none) (h0 : -(2 ^ 62) ≤ i ∧ i < 2 ^ 62 ∧ -(2 ^ 62) ≤ j ∧ j < 2 ^ 62) (l1 : look G r1 = some (.int i) := by rfl) (l2 : look G r2 = some (.int j) := by rfl) (hg : Gl X "range" := by rfl)
    (hs : starEach [a, b] X.env = [(false, eval a X.env), (false, eval b X.env)] := by rfl) (hs2 : starEach [b] X.env = [(false, eval b X.env)] := by rfl) : EvI T X G mu tg (.Call (.Name "range" p) [a, b] [] pos) (rngD i (j - i).toNat) mu2 := by
  refine pi_imp (pi_range2 hg hm (ea_cons ha (ea_cons hb ea_nil (by rw [hs2]; rfl)) (by rw [hs, hs2])) hs hs2) fun sg H R ⟨B, F, fi, e, q⟩ => ⟨B, F, fi, e, fun vs F1 fi1 H1 s1 p1 e1 m1 => ?_⟩
  cases m1 with
  | cons m1 m2 =>
    cases m2 with
    | cons m2 m3 =>
      cases m3
      have ev := (e1.viewH m1 l1).int
      have eu := (e1.viewH m2 l2).int
      subst ev eu
      exact ⟨i, j, rfl, h0, q F1 fi1 H1 _ s1 p1 e1 .rng⟩
end

/-! ### targets -/
section
variable {T : Tbs} {X : Cx} {G G1 G2 : List Cell} {mu : List Dt} {d : Dt} {ds : List Dt} {ix : List Nat} {pos : Pos} {tg : Expr} {es : List Expr}
/-- sg' is sg but at ix -/
def But (ix : List Nat) (sg sg' : L2.St) : Prop := sg'.length = sg.length ∧ ∀ j : Nat, j ∉ ix → sg'[j]? = sg[j]?
def rdG (K : PySem.W.Frag) (T : Tbs) (G : List Cell) (mu : List Dt) (d : Dt) (G' : List Cell) (ix : List Nat) : TG := fun v sg H Q =>
  ∃ B F fi, DE K T B F fi sg H G mu ∧ Rp K F fi v d ∧ ∀ F' fi' sg' H', Sub F F' → fi <+: fi' → DE K T B F' fi' sg' H' G' mu → But ix sg sg' → Q sg' H'
abbrev EvG (T : Tbs) (X : Cx) (G : List Cell) (mu : List Dt) (tg : Expr) (d : Dt) (G' : List Cell) (ix : List Nat) : Prop := PG X tg (rdG X.K T G mu d G' ix)
def rdGs (K : PySem.W.Frag) (T : Tbs) (G : List Cell) (mu : List Dt) (ds : List Dt) (G' : List Cell) (ix : List Nat) : TGs := fun vs sg H Q =>
  ∃ B F fi, DE K T B F fi sg H G mu ∧ RpL K F fi vs ds ∧ ∀ F' fi' sg' H', Sub F F' → fi <+: fi' → DE K T B F' fi' sg' H' G' mu → But ix sg sg' → Q sg' H'
abbrev EvGs (T : Tbs) (X : Cx) (G : List Cell) (mu : List Dt) (tg : List Expr) (ds : List Dt) (G' : List Cell) (ix : List Nat) : Prop := PGs X tg (rdGs X.K T G mu ds G' ix)
theorem pg_imp {e : Expr} {t t' : TG} (h : PG X e t) (i : ∀ v sg H Q, t' v sg H Q → t v sg H Q) : PG X e t' := ⟨fun pins s sg H v u Q I r q => h.run pins s sg H v u Q I r (i v sg H Q q)⟩
theorem pgs_imp {e : List Expr} {t t' : TGs} (h : PGs X e t) (i : ∀ v sg H Q, t' v sg H Q → t v sg H Q) : PGs X e t' := ⟨fun pins s sg H v u Q I r q => h.run pins s sg H v u Q I r (i v sg H Q q)⟩
theorem eg_name {x : Str} (hN : X.N.Nodup) (i : Nat) (hi : X.N[i]? = some x := by rfl) (hx : Loc X.env.scope x := by first | exact Or.inl rfl | exact Or.inr rfl) (hf : X.fn x = true ∨ X.env.scope.names.lookup x = some .local := by first | exact .inl rfl | exact .inr rfl) : EvG T X G mu (.Name x pos) d (G.set i (.val d)) [i] :=
  pg_imp (pg_name hN hi hx hf) fun v sg H Q ⟨B, F, fi, e, r, q⟩ => q F fi _ H (Sub.refl F) (List.prefix_refl _) (e.setV r) ⟨by rw [List.length_set], fun j hj => set_ne (by simpa using hj)⟩
theorem egs_nil : EvGs T X G mu [] [] G [] := pgs_imp pgs_nil fun v sg H Q ⟨B, F, fi, e, r, q⟩ => by
  cases r
  exact ⟨rfl, q F fi sg H (Sub.refl F) (List.prefix_refl _) e ⟨rfl, fun _ _ => rfl⟩⟩
theorem egs_cons {ix2 : List Nat} (h : EvG T X G mu tg d G1 ix) (h2 : EvGs T X G1 mu es ds G2 ix2) (hs : (assignEach (tg :: es) X.env).map (·.2) = assign tg X.env :: (assignEach es X.env).map (·.2) := by rfl) : EvGs T X G mu (tg :: es) (d :: ds) G2 (ix ++ ix2) :=
  pgs_imp (pgs_cons h h2 hs) fun vs sg H Q ⟨B, F, fi, e, r, q⟩ => by
    cases r with
    | cons r1 r2 =>
      exact ⟨_, _, rfl, B, F, fi, e, r1, fun F1 fi1 sg1 H1 s1 p1 e1 b1 => ⟨B, F1, fi1, e1, r2.mono s1 p1, fun F2 fi2 sg2 H2 s2 p2 e2 b2 => q F2 fi2 sg2 H2 (s1.trans s2) (p1.trans p2) e2 ⟨b2.1.trans b1.1, fun j hj => by
        rw [List.mem_append, not_or] at hj
        exact (b2.2 j hj.2).trans (b1.2 j hj.1)⟩⟩⟩
theorem eg_tup {k : Nat} {n : Nat} (hc : X.calm = true) (h : EvGs T X G mu es ds G1 ix) (hl : ds.length = n := by rfl) (hn : (assignEach es X.env).length = n := by rfl) (hst : (assignEach es X.env).findIdx? (·.1) = none := by rfl) : EvG T X G mu (.Tuple es k pos) (.tup ds) G1 ix :=
  pg_imp (pg_tup hc h hn hst) fun v sg H Q ⟨B, F, fi, e, r, q⟩ => by
    cases r with
    | tup g m => exact ⟨_, _, rfl, SqT.of (e.sub _ _ g), by rw [m.length]; exact hl, B, F, fi, e, m, q⟩
theorem eg_tupL {k : Nat} {n : Nat} (hc : X.calm = true) (h : EvGs T X G mu es ds G1 ix) (hl : ds.length = n := by rfl) (hn : (assignEach es X.env).length = n := by rfl) (hst : (assignEach es X.env).findIdx? (·.1) = none := by rfl) : EvG T X G mu (.Tuple es k pos) (.lst ds) G1 ix :=
  pg_imp (pg_lst hc h hn hst) fun v sg H Q ⟨B, F, fi, e, r, q⟩ => by
    cases r with
    | lst g m => exact ⟨_, _, rfl, SqL.of (e.sub _ _ g), by rw [m.length]; exact hl, B, F, fi, e, m, q⟩
end

/-! ### list comprehensions -/
theorem wipe_get {sg : L2.St} {j : Nat} : ∀ {vs : List Nat}, (wipe sg vs)[j]? = if j ∈ vs then (if j < sg.length then some none else none) else sg[j]?
  | [] => by simp [wipe]
  | v :: vs => by
    unfold wipe
    by_cases h : j = v
    · subst h
      rw [if_pos List.mem_cons_self]
      by_cases hl : j < sg.length
      · rw [List.getElem?_set_self (by rw [wipe_length]; exact hl), if_pos hl]
      · rw [List.getElem?_eq_none (by rw [List.length_set, wipe_length]; omega), if_neg hl]
    · rw [set_ne h, wipe_get (vs := vs)]
      by_cases h2 : j ∈ vs
      · rw [if_pos h2, if_pos (List.mem_cons_of_mem _ h2)]
      · rw [if_neg h2, if_neg (by simp only [List.mem_cons, not_or]; exact ⟨h, h2⟩)]
theorem wipe_but {sg sg' : L2.St} {ix vs : List Nat} (h : But ix sg sg') (hs : ∀ j ∈ ix, j ∈ vs) : wipe sg' vs = wipe sg vs := List.ext_getElem? fun j => by
  rw [wipe_get, wipe_get, h.1]
  by_cases hj : j ∈ vs
  · rw [if_pos hj, if_pos hj]
  · rw [if_neg hj, if_neg hj, h.2 j fun z => hj (hs j z)]
theorem wipe_wipe {sg : L2.St} {vs : List Nat} : wipe (wipe sg vs) vs = wipe sg vs := List.ext_getElem? fun j => by
  rw [wipe_get, wipe_get, wipe_length]
  by_cases hj : j ∈ vs
  · rw [if_pos hj, if_pos hj]
  · rw [if_neg hj, if_neg hj]
def wipeC (G : List Cell) : List Nat → List Cell
  | [] => G
  | v :: vs => (wipeC G vs).set v .no
theorem wipeC_length (G : List Cell) : ∀ vs : List Nat, (wipeC G vs).length = G.length
  | [] => rfl
  | v :: vs => by unfold wipeC; rw [List.length_set, wipeC_length G vs]
theorem wipeC_get {G : List Cell} {j : Nat} : ∀ {vs : List Nat}, (wipeC G vs)[j]? = if j ∈ vs then (if j < G.length then some .no else none) else G[j]?
  | [] => by simp [wipeC]
  | v :: vs => by
    unfold wipeC
    by_cases h : j = v
    · subst h
      rw [if_pos List.mem_cons_self]
      by_cases hl : j < G.length
      · rw [List.getElem?_set_self (by rw [wipeC_length]; exact hl), if_pos hl]
      · rw [List.getElem?_eq_none (by rw [List.length_set, wipeC_length]; omega), if_neg hl]
    · rw [set_ne h, wipeC_get (vs := vs)]
      by_cases h2 : j ∈ vs
      · rw [if_pos h2, if_pos (List.mem_cons_of_mem _ h2)]
      · rw [if_neg h2, if_neg (by simp only [List.mem_cons, not_or]; exact ⟨h, h2⟩)]
section
variable {K : PySem.W.Frag} {T : Tbs} {B : Bs} {F F' : Hp} {fi fi' : List Addr} {sg sg' : L2.St} {H H' : Hp} {G G' : List Cell} {mu mu1 mu2 mu' : List Dt} {vs : List Nat}
theorem DE.wipe (e : DE K T B F fi sg H G mu) : ∀ vs : List Nat, DE K T B F fi (wipe sg vs) H (wipeC G vs) mu
  | [] => e
  | v :: vs => (DE.wipe e vs).setN
/-- the slots as they were: none of those wiped was an own one -/
theorem DE.unwipe {B0 : Bs} {H0 : Hp} (e : DE K T B0 F fi sg H0 G mu) (e' : DE K T B F' fi' (L2.wipe sg vs) H' (wipeC G vs) mu') (s : Sub F F') (p : fi <+: fi') (hv : ∀ j ∈ vs, ∀ m, G[j]? ≠ some (.own m)) : DE K T B F' fi' sg H' G mu' := by
  have at' : ∀ {i : Nat} {m : Dt}, G[i]? = some (.own m) → i ∉ vs ∧ (wipeC G vs)[i]? = some (.own m) ∧ (L2.wipe sg vs)[i]? = sg[i]? := fun {i m} h => by
    have hi : i ∉ vs := fun z => hv i z m h
    exact ⟨hi, by rw [wipeC_get, if_neg hi]; exact h, by rw [wipe_get, if_neg hi]⟩
  refine ⟨e'.sub, e'.tab, e.len, e'.lenm, fun i d h => ?_, fun i m h => ?_, e'.obj, fun i j m n q h1 h2 h3 h4 => e.oo i j m n q h1 h2 h3 h4, fun i m q j h1 h2 => ?_, e'.mm, e'.frame, e'.fold, e'.fpre, e'.fnew⟩
  · obtain ⟨v, a, b⟩ := e.slot i d h
    exact ⟨v, a, b.mono s p⟩
  · obtain ⟨_, g1, g2⟩ := at' h
    obtain ⟨q, a, b, c, d⟩ := e'.own i m g1
    exact ⟨q, by rw [← g2]; exact a, b, c, d⟩
  · obtain ⟨_, g1, g2⟩ := at' h1
    exact e'.om i m q j g1 (by rw [g2]; exact h2)
end
section
variable {T : Tbs} {X : Cx} {G G' : List Cell} {mu mu1 mu2 mu3 : List Dt} {tg elt iter : Expr} {ifs : List Expr} {scope : Scope} {own : List (Str × Nat)} {pos : Pos} {d r : Dt} {ds rs : List Dt}
/-- in every block of the comprehension -/
def BlkAll (X : Cx) (scope : Scope) (P : Cx → Prop) : Prop := ∀ (s : Shared) (H : Hp) (C : Addr) (cl : List (Str × Addr)) (fp : List Addr), P (X.blk s H scope (compEnvC scope cl C X.env) fp)
/-- the turns of a comprehension: items, shared objects, what is made, shared objects behind -/
inductive CompTo (T : Tbs) (X : Cx) (scope : Scope) (vs : List Nat) (G : List Cell) (tg elt : Expr) (ifs : List Expr) : List Dt → List Dt → List Dt → List Dt → Prop
  | nil {mu : List Dt} : CompTo T X scope vs G tg elt ifs [] mu [] mu
  | skip {d : Dt} {ds rs mu mu1 mu2 : List Dt} {G' : List Cell} {ix : List Nat} : BlkAll X scope (fun Y => PG Y tg (rdG X.K T G mu d G' ix)) → (∀ j ∈ ix, j ∈ vs) → wipeC G' vs = G → BlkAll X scope (fun Y => PTs Y ifs (rdT X.K T G' mu false mu1)) → CompTo T X scope vs G tg elt ifs ds mu1 rs mu2 →
      CompTo T X scope vs G tg elt ifs (d :: ds) mu rs mu2
  | take {d r : Dt} {ds rs mu mu1 mu2 mu3 : List Dt} {G' : List Cell} {ix : List Nat} : BlkAll X scope (fun Y => PG Y tg (rdG X.K T G mu d G' ix)) → (∀ j ∈ ix, j ∈ vs) → wipeC G' vs = G → BlkAll X scope (fun Y => PTs Y ifs (rdT X.K T G' mu true mu1)) → BlkAll X scope (fun Y => PE Y elt (rd X.K T G' mu1 (.dat r) mu2)) →
      CompTo T X scope vs G tg elt ifs ds mu2 rs mu3 → CompTo T X scope vs G tg elt ifs (d :: ds) mu (r :: rs) mu3
theorem pts_imp {Y : Cx} {ifs : List Expr} {t t' : TT} (h : PTs Y ifs t) (i : ∀ sg H Q, t' sg H Q → t sg H Q) : PTs Y ifs t' := ⟨fun pins s sg H Q I q => h.run pins s sg H Q I (i sg H Q q)⟩
theorem ets_nil {Y : Cx} : PTs Y [] (rdT Y.K T G mu true mu) := pts_imp pts_nil fun sg H Q ⟨B, F, fi, e, q⟩ => q F fi H (Sub.refl F) (List.prefix_refl _) e
theorem ets_one {Y : Cx} {c : Expr} {k : Bool} (h : EvT T Y G mu c k mu1) : PTs Y [c] (rdT Y.K T G mu k mu1) := pts_one h
end
end Dl

set_option Elab.async false
set_option linter.all false
set_option maxRecDepth 100000
set_option maxHeartbeats 4000000
/-! Dl6: list comprehensions with one and two clauses, as values and stored; for, while. -/
namespace Dl
open PySem PySem.Spec PyProof.Rows L2
section
variable {T : Tbs} {X : Cx} {G G' : List Cell} {mu mu1 mu2 mu3 : List Dt} {tg elt iter tg1 iter1 : Expr} {ifs ifs1 : List Expr} {scope : Scope} {own : List (Str × Nat)} {pos : Pos} {d r : Dt} {ds rs : List Dt}
def gU (X : Cx) (scope : Scope) (tg : Expr) : TG := fun v sg H Q => ∃ t, BlkAll X scope (fun Y => PG Y tg t) ∧ t v sg H Q
def tU (X : Cx) (scope : Scope) (ifs : List Expr) : TT := fun sg H Q => ∃ t, BlkAll X scope (fun Y => PTs Y ifs t) ∧ t sg H Q
def eU (X : Cx) (scope : Scope) (elt : Expr) : TE := fun sg H Q => ∃ t, BlkAll X scope (fun Y => PE Y elt t) ∧ t sg H Q
def iU (X : Cx) (scope : Scope) (tg iter : Expr) : TI := fun sg H Q => ∃ t, BlkAll X scope (fun Y => PI Y tg iter t) ∧ t sg H Q
theorem gU_ok (s : Shared) (H : Hp) (C : Addr) (cl : List (Str × Addr)) (fp : List Addr) : PG (X.blk s H scope (compEnvC scope cl C X.env) fp) tg (gU X scope tg) := ⟨fun pins s1 sg H1 v u Q I r ⟨t, ha, hq⟩ => (ha s H C cl fp).run pins s1 sg H1 v u Q I r hq⟩
theorem tU_ok (s : Shared) (H : Hp) (C : Addr) (cl : List (Str × Addr)) (fp : List Addr) : PTs (X.blk s H scope (compEnvC scope cl C X.env) fp) ifs (tU X scope ifs) := ⟨fun pins s1 sg H1 Q I ⟨t, ha, hq⟩ => (ha s H C cl fp).run pins s1 sg H1 Q I hq⟩
theorem eU_ok (s : Shared) (H : Hp) (C : Addr) (cl : List (Str × Addr)) (fp : List Addr) : PE (X.blk s H scope (compEnvC scope cl C X.env) fp) elt (eU X scope elt) := ⟨fun pins s1 sg H1 Q I ⟨t, ha, hq⟩ => (ha s H C cl fp).run pins s1 sg H1 Q I hq⟩
theorem iU_ok (s : Shared) (H : Hp) (C : Addr) (cl : List (Str × Addr)) (fp : List Addr) : PI (X.blk s H scope (compEnvC scope cl C X.env) fp) tg iter (iU X scope tg iter) := ⟨fun pins s1 sg H1 Q I ⟨t, ha, hq⟩ => (ha s H C cl fp).run pins s1 sg H1 Q I hq⟩
/-- within a comprehension: the list at D holds what is done -/
def CS (K : PySem.W.Frag) (T : Tbs) (B : Bs) (sg : L2.St) (G : List Cell) (D : Addr) (F1 : Hp) (fi1 : List Addr) (done mu : List Dt) (H : Hp) : Prop :=
  ∃ F' fi', Sub F1 F' ∧ fi1 <+: fi' ∧ DE K T B F' fi' sg H G mu ∧ RpR K B F' fi' sg H G (.ref D) (.new (.lst done))
theorem CS.notT {K : PySem.W.Frag} {B : Bs} {sg : L2.St} {F1 : Hp} {fi1 : List Addr} {D : Addr} {done : List Dt} {H : Hp} (h : CS K T B sg G D F1 fi1 done mu H) : D ∉ T := by
  obtain ⟨F', fi', _, _, e, p, z, _, ho, _⟩ := h
  cases z
  obtain ⟨o, h1, h2⟩ := ho.some
  exact e.tabne h1 h2
/-- a step under the list's cover: from the state e3, D's list acc, to any later one -/
structure Under (K : PySem.W.Frag) (T : Tbs) (B : Bs) (sg : L2.St) (G : List Cell) (D : Addr) (done : List Dt) (mu : List Dt) (F3 : Hp) (fi2 : List Addr) (H3 : Hp) : Prop where
  e3 : DE K T B F3 fi2 sg H3 G mu
  n3 : RpR K B F3 fi2 sg H3 G (.ref D) (.new (.lst done))
theorem Under.fin {K : PySem.W.Frag} {B : Bs} {sg sg4 : L2.St} {G4 : List Cell} {D : Addr} {done mu4 : List Dt} {F3 F4 : Hp} {fi2 fi4 : List Addr} {H3 H4 : Hp} (U : Under K T B sg G D done mu F3 fi2 H3) (e4 : DE K T (Bs.now F3 fi2 sg H3 G) F4 fi4 sg4 H4 G4 mu4) (s : Sub F3 F4) (p : fi2 <+: fi4)
    (home : DE K T (Bs.now F3 fi2 sg H3 G) F4 fi4 sg H4 G mu4) : DE K T B F4 fi4 sg H4 G mu4 ∧ RpR K B F4 fi4 sg H4 G (.ref D) (.new (.lst done)) := by
  obtain ⟨D', zD, n1, ⟨acc, n2, n2'⟩, n4, n5, n6⟩ := U.n3
  cases zD
  have notOwn : ¬ IsOwn sg G D := fun ⟨j, c, z1, z2⟩ => n4 j c z1 z2
  have notT : D ∉ T := U.e3.tabne n2 fun q z => by cases z
  have notFi : D ∉ fi2 := fun z => by
    obtain ⟨j, hj, ej⟩ := List.getElem_of_mem z
    exact n5 j (by rw [List.getElem?_eq_getElem hj, ej])
  have hb : (Bs.now F3 fi2 sg H3 G).H D = some (.lst acc) := by rw [now_not notOwn]; exact n2
  refine ⟨U.e3.then home s, D, rfl, ?_, ⟨acc, e4.frame D _ hb notFi notT, n2'.mono s p⟩, n4, fun j z => ?_, n6⟩
  · cases z : F4 D with
    | none => rfl
    | some u =>
      rcases e4.fnew D u z with y | y
      · have y' : F3 D = some u := y
        rw [n1] at y'
        cases y'
      · rw [hb] at y
        cases y
  · rcases e4.fpre D (List.mem_of_getElem? z) with y | y
    · exact notFi y
    · rw [hb] at y
      cases y
/-- an item more -/
theorem more {K : PySem.W.Frag} {B : Bs} {sg : L2.St} {D : Addr} {done : List Dt} {F : Hp} {fi : List Addr} {H : Hp} {y : V} (e : DE K T B F fi sg H G mu) (h : RpR K B F fi sg H G (.ref D) (.new (.lst done))) (hy : Rp K F fi y r) (hz : done.length < 1000000) :
    ∃ acc, H D = some (.lst acc) ∧ acc.length < sizeLine ∧ DE K T B F fi sg (upd H D (.lst (acc ++ [y]))) G mu ∧ RpR K B F fi sg (upd H D (.lst (acc ++ [y]))) G (.ref D) (.new (.lst (done ++ [r]))) := by
  obtain ⟨D', zD, n1, ⟨acc, n2, n2'⟩, n4, n5, n6⟩ := h
  cases zD
  refine ⟨acc, n2, ?_, e.touch n1 n4 n5 (e.tabne n2 fun q z => by cases z) n6, D, rfl, n1, ⟨acc ++ [y], upd_same, n2'.append (.cons hy .nil)⟩, n4, n5, n6⟩
  rw [n2'.length]
  exact Nat.lt_of_lt_of_le hz (by rw [sizeLine_eq]; decide)
theorem walk_comp {B : Bs} {sg : L2.St} {vs : List Nat} {D : Addr} {F1 : Hp} {fi1 : List Addr} {H0 : Hp} {done : List Dt} {J : It} (fd : Feeds X.K J F1 fi1 ds) (ct : CompTo T X scope vs (wipeC G vs) tg elt ifs ds mu rs mu2)
    (st : CS X.K T B (wipe sg vs) (wipeC G vs) D F1 fi1 done mu H0) (hl : done.length + rs.length < 1000000) {Qd : Hp → Prop} (hq : ∀ H, CS X.K T B (wipe sg vs) (wipeC G vs) D F1 fi1 (done ++ rs) mu2 H → Qd H) :
    ∃ W : Nat → Nat → Hp → Prop, (∃ m, W 0 m H0) ∧ ∀ i m H, W i m H → (J.stop i H ∧ Qd H) ∨ (J.go i H ∧ ∃ Nx : Hp → Prop, (∀ H', Nx H' → ∃ m', m' < m ∧ W (i + 1) m' H') ∧ ∀ x H', J.yld i H x H' → gU X scope tg x (wipe sg vs) H' fun sg2 H2 => wipe sg2 vs = wipe sg vs ∧ tU X scope ifs sg2 H2 fun b H3 =>
      if b = true then eU X scope elt sg2 H3 fun y H4 => ∃ acc, H4 D = some (.lst acc) ∧ acc.length < sizeLine ∧ Nx (upd H4 D (.lst (acc ++ [y]))) else Nx H3) := by
  refine ⟨fun i m H => m = ds.length - i ∧ i ≤ ds.length ∧ ∃ dn rest mu', dn ++ rest = done ++ rs ∧ dn.length + rest.length < 1000000 ∧ CompTo T X scope vs (wipeC G vs) tg elt ifs (ds.drop i) mu' rest mu2 ∧ CS X.K T B (wipe sg vs) (wipeC G vs) D F1 fi1 dn mu' H, ⟨_, rfl, Nat.zero_le _, done, rs, mu, rfl, hl, ct, st⟩, ?_⟩
  rintro i m H2 ⟨rfl, hi2, dn, rest, mu', hrs, hln, hct, F2, fi2, s2, p2, e2, h2⟩
  by_cases hlt : i < ds.length
  · have hd : ds[i]? = some ds[i] := List.getElem?_eq_getElem hlt
    rw [List.drop_eq_getElem_cons hlt] at hct
    obtain ⟨g1, g2⟩ := fd.go i ds[i] H2 (s2.trans e2.sub) hd
    refine .inr ⟨g1, fun H' => ∃ dn rest mu', dn ++ rest = done ++ rs ∧ dn.length + rest.length < 1000000 ∧ CompTo T X scope vs (wipeC G vs) tg elt ifs (ds.drop (i + 1)) mu' rest mu2 ∧ CS X.K T B (wipe sg vs) (wipeC G vs) D F1 fi1 dn mu' H', fun H' hH => ⟨ds.length - (i + 1), by omega, rfl, hlt, hH⟩, fun x H3 hy => ?_⟩
    obtain ⟨F3, s3, e3, h3, n3⟩ := Yl.at2 e2 ((g2 x H3 hy).mono s2 p2) h2
    have U : Under X.K T B (wipe sg vs) (wipeC G vs) D dn mu' F3 fi2 H3 := ⟨e3, n3⟩
    have home : ∀ {F4 : Hp} {fi4 : List Addr} {sg4 : L2.St} {H4 : Hp} {G4 : List Cell} {mu4 : List Dt} {ix : List Nat}, DE X.K T (Bs.now F3 fi2 (wipe sg vs) H3 (wipeC G vs)) F4 fi4 sg4 H4 G4 mu4 → But ix (wipe sg vs) sg4 → (∀ j ∈ ix, j ∈ vs) → wipeC G4 vs = wipeC G vs →
        DE X.K T (Bs.now F3 fi2 (wipe sg vs) H3 (wipeC G vs)) F4 fi4 (wipe sg vs) H4 (wipeC G vs) mu4 := fun {F4 fi4 sg4 H4 G4 mu4 ix} e4 b4 hix hw => by
      have e5 := e4.wipe vs
      rw [wipe_but b4 hix, wipe_wipe, hw] at e5
      exact e5
    cases hct with
    | skip hg1 hix hw1 ht1 hrest =>
      refine ⟨_, hg1, _, F3, fi2, e3.now, h3, fun F4 fi4 sg4 H4 s4 p4 e4 b4 => ⟨(wipe_but b4 hix).trans wipe_wipe, _, ht1, _, F4, fi4, e4, fun F5 fi5 H5 s5 p5 e5 => iteF ?_⟩⟩
      obtain ⟨d1, d2⟩ := U.fin e5 (s4.trans s5) (p4.trans p5) (home e5 b4 hix hw1)
      exact ⟨dn, rest, _, hrs, hln, hrest, F5, fi5, ((s2.trans s3).trans s4).trans s5, (p2.trans p4).trans p5, d1, d2⟩
    | take hg1 hix hw1 ht1 he1 hrest =>
      rename_i r' rs' mu5 mu6 G' ix
      refine ⟨_, hg1, _, F3, fi2, e3.now, h3, fun F4 fi4 sg4 H4 s4 p4 e4 b4 => ⟨(wipe_but b4 hix).trans wipe_wipe, _, ht1, _, F4, fi4, e4, fun F5 fi5 H5 s5 p5 e5 => iteT ⟨_, he1, _, F5, fi5, e5, fun y F6 fi6 H6 s6 p6 e6 h6 => ?_⟩⟩⟩
      obtain ⟨d1, d2⟩ := U.fin e6 ((s4.trans s5).trans s6) ((p4.trans p5).trans p6) (home e6 b4 hix hw1)
      obtain ⟨acc, a1, a2, a3, a4⟩ := more d1 d2 h6 (by rw [List.length_cons] at hln; omega)
      refine ⟨acc, a1, a2, dn ++ [_], rs', _, ?_, ?_, hrest, F6, fi6, (((s2.trans s3).trans s4).trans s5).trans s6, ((p2.trans p4).trans p5).trans p6, a3, a4⟩
      · rw [List.append_assoc]
        exact hrs
      · rw [List.length_append, List.length_singleton]
        rw [List.length_cons] at hln
        omega
  · have ei : i = ds.length := by omega
    subst ei
    rw [List.drop_length] at hct
    cases hct
    rw [List.append_nil] at hrs
    subst hrs
    exact .inl ⟨fd.stop H2 (s2.trans e2.sub), hq H2 ⟨F2, fi2, s2, p2, e2, h2⟩⟩
theorem CS.end_ {B : Bs} {sg : L2.St} {vs : List Nat} {D : Addr} {F1 : Hp} {fi1 : List Addr} {H H1 : Hp} (e1 : DE X.K T B F1 fi1 sg H1 G mu1) (hv : ∀ j ∈ vs, ∀ m, G[j]? ≠ some (.own m)) (h : CS X.K T B (L2.wipe sg vs) (wipeC G vs) D F1 fi1 rs mu2 H) :
    ∃ F2 fi2, Sub F1 F2 ∧ fi1 <+: fi2 ∧ DE X.K T B F2 fi2 sg H G mu2 ∧ RpR X.K B F2 fi2 sg H G (.ref D) (.new (.lst rs)) := by
  obtain ⟨F2, fi2, s2, p2, e2, D', zD, n1, n2, n4, n5, n6⟩ := h
  cases zD
  refine ⟨F2, fi2, s2, p2, e1.unwipe e2 s2 p2 hv, D, rfl, n1, n2, fun j c hj => ?_, n5, n6⟩
  have hj2 : j ∉ vs := fun z => hv j z c hj
  have h7 := n4 j c (by rw [wipeC_get, if_neg hj2]; exact hj)
  rw [wipe_get, if_neg hj2] at h7
  exact h7
theorem lc_read {vs : List Nat} (hv : ∀ j ∈ vs, ∀ m, G[j]? ≠ some (.own m)) (ht : CompTo T X scope vs (wipeC G vs) tg elt ifs ds mu1 rs mu2) (hl : rs.length < 1000000) {sg : L2.St} {H : Hp} {Q : VK} (h : rd X.K T G mu (.new (.lst rs)) mu2 sg H Q) :
    tLc (rdI X.K T G mu ds mu1) (gU X scope tg) (tU X scope ifs) (eU X scope elt) vs sg H Q := by
  obtain ⟨B, F, fi, e, q⟩ := h
  refine ⟨B, F, fi, e, fun F1 fi1 H1 J s1 p1 e1 fd D hD => ?_⟩
  obtain ⟨e2, h2⟩ := (e1.wipe vs).newL hD (vs := []) (ds := []) .nil
  refine walk_comp fd ht ⟨F1, fi1, Sub.refl F1, List.prefix_refl _, e2, h2⟩ (by rw [List.length_nil]; omega) fun H2 hc => ?_
  rw [List.nil_append] at hc
  obtain ⟨F2, fi2, s2, p2, e3, h3⟩ := hc.end_ e1 hv
  exact q _ F2 fi2 H2 (s1.trans s2) (p1.trans p2) e3 h3
/-- [elt for tg in iter if ..] -/
theorem ev_comp (hc : X.calm = true) (hN : X.N.Nodup) (hi : EvI T X G mu tg iter ds mu1) (ok : BlkOk X.N X.env.scope scope own) (hv : ∀ j ∈ own.map (·.2), ∀ m, G[j]? ≠ some (.own m))
    (ht : CompTo T X scope (own.map (·.2)) (wipeC G (own.map (·.2))) tg elt ifs ds mu1 rs mu2) (hl : rs.length < 1000000) (hs : ∀ x, foldedSetIterable iter X.env x = pure x := by intro _; rfl) : EvD T X G mu (.ListComp elt [⟨tg, iter, ifs, 0⟩] scope pos) (.new (.lst rs)) mu2 :=
  pe_imp (pe_lc hc hN hi ok gU_ok tU_ok eU_ok hs) fun sg H Q h => lc_read hv ht hl h
/-- y = [..] -/
theorem sd_comp {W : WX} {y : Str} {py spos : Pos} (hc : X.calm = true) (hN : X.N.Nodup) (i : Nat) (hi : EvI T X G mu tg iter ds mu1) (ok : BlkOk X.N X.env.scope scope own) (hv : ∀ j ∈ own.map (·.2), ∀ m, G[j]? ≠ some (.own m))
    (ht : CompTo T X scope (own.map (·.2)) (wipeC G (own.map (·.2))) tg elt ifs ds mu1 rs mu2) (hl : rs.length < 1000000) (hy : X.N[i]? = some y := by rfl) (hyl : X.env.scope.names.lookup y = some .local := by rfl)
    (hsw : swapsWith (.ListComp elt [⟨tg, iter, ifs, 0⟩] scope pos) (some (.Name y py)) spos.line X.env = pure true := by exact sw_true rfl rfl rfl (by decide +kernel)) (hs : ∀ x, foldedSetIterable iter X.env x = pure x := by intro _; rfl) :
    SD T X W G mu (.Assign [.Name y py] (.ListComp elt [⟨tg, iter, ifs, 0⟩] scope pos) spos) (.nx (G.set i (.own (.lst rs))) mu2) :=
  ps_imp (ps_setLc hc hN hy hyl hsw hi ok gU_ok tU_ok eU_ok hs) fun D sg H ⟨B, F, fi, e, q⟩ => lc_read hv ht hl (Q := fun x H1 => gName i x sg H1 D.nx) ⟨B, F, fi, e, fun v F' fi' H' s p e' h' => q F' fi' _ H' s p (e'.setO h')⟩
/-- y = [..], kept as it is -/
theorem sd_compV {W : WX} {y : Str} {py spos : Pos} (hc : X.calm = true) (hN : X.N.Nodup) (i : Nat) (hi : EvI T X G mu tg iter ds mu1) (ok : BlkOk X.N X.env.scope scope own) (hv : ∀ j ∈ own.map (·.2), ∀ m, G[j]? ≠ some (.own m))
    (ht : CompTo T X scope (own.map (·.2)) (wipeC G (own.map (·.2))) tg elt ifs ds mu1 rs mu2) (hl : rs.length < 1000000) (hy : X.N[i]? = some y := by rfl) (hyl : X.env.scope.names.lookup y = some .local := by rfl)
    (hsw : swapsWith (.ListComp elt [⟨tg, iter, ifs, 0⟩] scope pos) (some (.Name y py)) spos.line X.env = pure true := by exact sw_true rfl rfl rfl (by decide +kernel)) (hs : ∀ x, foldedSetIterable iter X.env x = pure x := by intro _; rfl) :
    SD T X W G mu (.Assign [.Name y py] (.ListComp elt [⟨tg, iter, ifs, 0⟩] scope pos) spos) (.nx (G.set i (.val (.lst rs))) mu2) :=
  ps_imp (ps_setLc hc hN hy hyl hsw hi ok gU_ok tU_ok eU_ok hs) fun D sg H ⟨B, F, fi, e, q⟩ => lc_read hv ht hl (Q := fun x H1 => gName i x sg H1 D.nx) ⟨B, F, fi, e, fun v F' fi' H' s p e' h' => by
    obtain ⟨F2, s2, e2, h2⟩ := e'.freeze h'
    exact q F2 fi' _ H' (s.trans s2) p (e2.setV h2)⟩

theorem wipe_sub {sg : L2.St} {vs vs1 : List Nat} (h : ∀ j ∈ vs1, j ∈ vs) : wipe (wipe sg vs1) vs = wipe sg vs := List.ext_getElem? fun j => by
  by_cases hj : j ∈ vs
  · rw [wipe_get (vs := vs), if_pos hj, wipe_get (vs := vs), if_pos hj, wipe_length]
  · rw [wipe_get (vs := vs), if_neg hj, wipe_get (vs := vs), if_neg hj, wipe_get, if_neg fun z => hj (h j z)]
theorem wipeC_sub {G : List Cell} {vs vs1 : List Nat} (h : ∀ j ∈ vs1, j ∈ vs) : wipeC (wipeC G vs1) vs = wipeC G vs := List.ext_getElem? fun j => by
  by_cases hj : j ∈ vs
  · rw [wipeC_get (vs := vs), if_pos hj, wipeC_get (vs := vs), if_pos hj, wipeC_length]
  · rw [wipeC_get (vs := vs), if_neg hj, wipeC_get (vs := vs), if_neg hj, wipeC_get, if_neg fun z => hj (h j z)]
theorem new_wipe {K : PySem.W.Frag} {B : Bs} {sg : L2.St} {vs : List Nat} {F : Hp} {fi : List Addr} {H : Hp} {v : V} {m : Dt} (h : RpR K B F fi sg H G v (.new m)) : RpR K B F fi (wipe sg vs) H (wipeC G vs) v (.new m) := by
  obtain ⟨p, rfl, n1, n2, n4, n5, n6⟩ := h
  refine ⟨p, rfl, n1, n2, fun j c hj => ?_, n5, n6⟩
  rw [wipeC_get] at hj
  rw [wipe_get]
  by_cases hj2 : j ∈ vs
  · rw [if_pos hj2] at hj
    split at hj <;> cases hj
  · rw [if_neg hj2] at hj
    rw [if_neg hj2]
    exact n4 j c hj
theorem new_unwipe {K : PySem.W.Frag} {B : Bs} {sg : L2.St} {vs : List Nat} {F : Hp} {fi : List Addr} {H : Hp} {v : V} {m : Dt} (hv : ∀ j ∈ vs, ∀ m, G[j]? ≠ some (.own m)) (h : RpR K B F fi (wipe sg vs) H (wipeC G vs) v (.new m)) : RpR K B F fi sg H G v (.new m) := by
  obtain ⟨p, rfl, n1, n2, n4, n5, n6⟩ := h
  refine ⟨p, rfl, n1, n2, fun j c hj => ?_, n5, n6⟩
  have hj2 : j ∉ vs := fun z => hv j z c hj
  have h7 := n4 j c (by rw [wipeC_get, if_neg hj2]; exact hj)
  rw [wipe_get, if_neg hj2] at h7
  exact h7
/-! two clauses -/
inductive CompTo2 (T : Tbs) (X : Cx) (scope : Scope) (vs vs1 : List Nat) (G : List Cell) (tg tg1 iter1 elt : Expr) (ifs ifs1 : List Expr) : List Dt → List Dt → List Dt → List Dt → Prop
  | nil {mu : List Dt} : CompTo2 T X scope vs vs1 G tg tg1 iter1 elt ifs ifs1 [] mu [] mu
  | skip {d : Dt} {ds rs mu mu1 mu2 : List Dt} {G' : List Cell} {ix : List Nat} : BlkAll X scope (fun Y => PG Y tg (rdG X.K T G mu d G' ix)) → (∀ j ∈ ix, j ∈ vs) → wipeC G' vs = G → BlkAll X scope (fun Y => PTs Y ifs (rdT X.K T G' mu false mu1)) →
      CompTo2 T X scope vs vs1 G tg tg1 iter1 elt ifs ifs1 ds mu1 rs mu2 → CompTo2 T X scope vs vs1 G tg tg1 iter1 elt ifs ifs1 (d :: ds) mu rs mu2
  | take {d : Dt} {ds ds1 rs rs1 mu mu1 mu2 mu3 mu4 : List Dt} {G' : List Cell} {ix : List Nat} : BlkAll X scope (fun Y => PG Y tg (rdG X.K T G mu d G' ix)) → (∀ j ∈ ix, j ∈ vs) → wipeC G' vs = G → BlkAll X scope (fun Y => PTs Y ifs (rdT X.K T G' mu true mu1)) →
      BlkAll X scope (fun Y => PI Y tg1 iter1 (rdI X.K T G' mu1 ds1 mu2)) → (∀ j ∈ vs, ∀ m, G'[j]? ≠ some (.own m)) → CompTo T X scope vs1 (wipeC G' vs1) tg1 elt ifs1 ds1 mu2 rs1 mu3 →
      CompTo2 T X scope vs vs1 G tg tg1 iter1 elt ifs ifs1 ds mu3 rs mu4 → CompTo2 T X scope vs vs1 G tg tg1 iter1 elt ifs ifs1 (d :: ds) mu (rs1 ++ rs) mu4
theorem lc2_read {vs vs1 : List Nat} (hv : ∀ j ∈ vs, ∀ m, G[j]? ≠ some (.own m)) (h11 : ∀ j ∈ vs1, j ∈ vs) (ht : CompTo2 T X scope vs vs1 (wipeC G vs) tg tg1 iter1 elt ifs ifs1 ds mu1 rs mu2) (hl : rs.length < 1000000) {sg : L2.St} {H : Hp} {Q : VK} (h : rd X.K T G mu (.new (.lst rs)) mu2 sg H Q) :
    tLc2 (rdI X.K T G mu ds mu1) (gU X scope tg) (tU X scope ifs) (iU X scope tg1 iter1) (gU X scope tg1) (tU X scope ifs1) (eU X scope elt) vs vs1 sg H Q := by
  obtain ⟨B, F, fi, e, q⟩ := h
  refine ⟨B, F, fi, e, fun F1 fi1 H1 J s1 p1 e1 fd D hD => ?_⟩
  refine ⟨fun i m H => m = ds.length - i ∧ i ≤ ds.length ∧ ∃ dn rest mu', dn ++ rest = rs ∧ dn.length + rest.length < 1000000 ∧ CompTo2 T X scope vs vs1 (wipeC G vs) tg tg1 iter1 elt ifs ifs1 (ds.drop i) mu' rest mu2 ∧ CS X.K T B (wipe sg vs) (wipeC G vs) D F1 fi1 dn mu' H, ?_, ?_⟩
  · obtain ⟨e2, h2⟩ := (e1.wipe vs).newL hD (vs := []) (ds := []) .nil
    exact ⟨_, rfl, Nat.zero_le _, [], rs, mu1, rfl, by rw [List.length_nil]; omega, ht, F1, fi1, Sub.refl F1, List.prefix_refl _, e2, h2⟩
  rintro i m H2 ⟨rfl, hi2, dn, rest, mu', hrs, hln, hct, F2, fi2, s2, p2, e2, h2⟩
  by_cases hlt : i < ds.length
  · have hd : ds[i]? = some ds[i] := List.getElem?_eq_getElem hlt
    rw [List.drop_eq_getElem_cons hlt] at hct
    obtain ⟨g1, g2⟩ := fd.go i ds[i] H2 (s2.trans e2.sub) hd
    refine .inr ⟨g1, fun H' => ∃ dn rest mu', dn ++ rest = rs ∧ dn.length + rest.length < 1000000 ∧ CompTo2 T X scope vs vs1 (wipeC G vs) tg tg1 iter1 elt ifs ifs1 (ds.drop (i + 1)) mu' rest mu2 ∧ CS X.K T B (wipe sg vs) (wipeC G vs) D F1 fi1 dn mu' H', fun H' hH => ⟨ds.length - (i + 1), by omega, rfl, hlt, hH⟩, fun x H3 hy => ?_⟩
    obtain ⟨F3, s3, e3, h3, n3⟩ := Yl.at2 e2 ((g2 x H3 hy).mono s2 p2) h2
    have U : Under X.K T B (wipe sg vs) (wipeC G vs) D dn mu' F3 fi2 H3 := ⟨e3, n3⟩
    have home : ∀ {F4 : Hp} {fi4 : List Addr} {sg4 : L2.St} {H4 : Hp} {G4 : List Cell} {mu4 : List Dt} {ix : List Nat}, DE X.K T (Bs.now F3 fi2 (wipe sg vs) H3 (wipeC G vs)) F4 fi4 sg4 H4 G4 mu4 → But ix (wipe sg vs) sg4 → (∀ j ∈ ix, j ∈ vs) → wipeC G4 vs = wipeC G vs →
        DE X.K T (Bs.now F3 fi2 (wipe sg vs) H3 (wipeC G vs)) F4 fi4 (wipe sg vs) H4 (wipeC G vs) mu4 := fun {F4 fi4 sg4 H4 G4 mu4 ix} e4 b4 hix hw => by
      have e5 := e4.wipe vs
      rw [wipe_but b4 hix, wipe_wipe, hw] at e5
      exact e5
    cases hct with
    | skip hg1 hix hw1 ht1 hrest =>
      refine ⟨_, hg1, _, F3, fi2, e3.now, h3, fun F4 fi4 sg4 H4 s4 p4 e4 b4 => ⟨(wipe_but b4 hix).trans wipe_wipe, _, ht1, _, F4, fi4, e4, fun F5 fi5 H5 s5 p5 e5 => iteF ?_⟩⟩
      obtain ⟨d1, d2⟩ := U.fin e5 (s4.trans s5) (p4.trans p5) (home e5 b4 hix hw1)
      exact ⟨dn, rest, _, hrs, hln, hrest, F5, fi5, ((s2.trans s3).trans s4).trans s5, (p2.trans p4).trans p5, d1, d2⟩
    | take hg1 hix hw1 ht1 hi1 hv1 hin hrest =>
      rename_i ds1 rs' rs1 mu5 mu6 mu7 G' ix
      refine ⟨_, hg1, _, F3, fi2, e3.now, h3, fun F4 fi4 sg4 H4 s4 p4 e4 b4 => ⟨(wipe_but b4 hix).trans wipe_wipe, _, ht1, _, F4, fi4, e4, fun F5 fi5 H5 s5 p5 e5 => iteT ⟨_, hi1, _, F5, fi5, e5, fun F6 fi6 H6 J1 s6 p6 e6 fd1 => ?_⟩⟩⟩
      obtain ⟨d1, d2⟩ := U.fin e6 ((s4.trans s5).trans s6) ((p4.trans p5).trans p6) (home e6 b4 hix hw1)
      have ws : wipe sg4 vs = wipe sg vs := (wipe_but b4 hix).trans wipe_wipe
      rw [← ws, ← hw1] at d1 d2
      have e7 := e6.unwipe d1 (Sub.refl F6) (List.prefix_refl _) hv1
      have n7 := new_unwipe hv1 d2
      refine walk_comp fd1 hin ⟨F6, fi6, Sub.refl F6, List.prefix_refl _, e7.wipe vs1, new_wipe n7⟩ ?_ fun H7 hc => ?_
      · rw [List.length_append] at hln
        omega
      · obtain ⟨F8, fi8, s8, p8, e8, n8⟩ := hc
        have e9 := e8.wipe vs
        have n9 := new_wipe (vs := vs) n8
        rw [wipe_sub h11, wipeC_sub h11, ws, hw1] at e9 n9
        refine ⟨dn ++ rs1, rs', _, ?_, ?_, hrest, F8, fi8, ((((s2.trans s3).trans s4).trans s5).trans s6).trans s8, (((p2.trans p4).trans p5).trans p6).trans p8, e9, n9⟩
        · rw [List.append_assoc]
          exact hrs
        · rw [List.length_append] at hln ⊢
          omega
  · have ei : i = ds.length := by omega
    subst ei
    rw [List.drop_length] at hct
    cases hct
    rw [List.append_nil] at hrs
    subst hrs
    obtain ⟨F3, fi3, s3, p3, e3, h3⟩ := CS.end_ e1 hv ⟨F2, fi2, s2, p2, e2, h2⟩
    exact .inl ⟨fd.stop H2 (s2.trans e2.sub), q _ F3 fi3 H2 (s1.trans s3) (p1.trans p3) e3 h3⟩
theorem ev_comp2 {vs1 : List Nat} (hc : X.calm = true) (hN : X.N.Nodup) (hi : EvI T X G mu tg iter ds mu1) (ok : BlkOk X.N X.env.scope scope own) (hv1 : ∀ j ∈ vs1, j ∈ own.map (·.2)) (hv : ∀ j ∈ own.map (·.2), ∀ m, G[j]? ≠ some (.own m))
    (ht : CompTo2 T X scope (own.map (·.2)) vs1 (wipeC G (own.map (·.2))) tg tg1 iter1 elt ifs ifs1 ds mu1 rs mu2) (hl : rs.length < 1000000) (hs : ∀ x, foldedSetIterable iter X.env x = pure x := by intro _; rfl) (hs1 : ∀ env x, foldedSetIterable iter1 env x = pure x := by intro _ _; rfl) :
    EvD T X G mu (.ListComp elt [⟨tg, iter, ifs, 0⟩, ⟨tg1, iter1, ifs1, 0⟩] scope pos) (.new (.lst rs)) mu2 :=
  pe_imp (pe_lc2 hc hN hi ok hv1 gU_ok tU_ok iU_ok gU_ok tU_ok eU_ok hs hs1) fun sg H Q h => lc2_read hv hv1 ht hl h
end

/-! ### for, while -/
section
variable {T : Tbs} {X : Cx} {W : WX} {G G' G1 G2 : List Cell} {mu mu1 mu2 mu3 : List Dt} {tg iter c : Expr} {body : List Stmt} {pos : Pos} {d r : Dt} {ds rs : List Dt} {o : SOut}
/-- the turns of a for -/
inductive ForTo (T : Tbs) (X : Cx) (W : WX) (tg : Expr) (body : List Stmt) : List Dt → List Cell → List Dt → SOut → Prop
  | nil {G : List Cell} {mu : List Dt} : ForTo T X W tg body [] G mu (.nx G mu)
  | next {d : Dt} {ds mu mu2 : List Dt} {G G1 G2 : List Cell} {ix : List Nat} {o : SOut} : PG X tg (rdG X.K T G mu d G1 ix) → SDs T X W G1 mu body (.nx G2 mu2) → ForTo T X W tg body ds G2 mu2 o → ForTo T X W tg body (d :: ds) G mu o
  | cont {d : Dt} {ds mu mu2 : List Dt} {G G1 G2 : List Cell} {ix : List Nat} {o : SOut} : PG X tg (rdG X.K T G mu d G1 ix) → SDs T X W G1 mu body (.ct G2 mu2) → ForTo T X W tg body ds G2 mu2 o → ForTo T X W tg body (d :: ds) G mu o
  | brk {d : Dt} {ds mu mu2 : List Dt} {G G1 G2 : List Cell} {ix : List Nat} : PG X tg (rdG X.K T G mu d G1 ix) → SDs T X W G1 mu body (.brk G2 mu2) → ForTo T X W tg body (d :: ds) G mu (.nx G2 mu2)
  | ret {d : Dt} {ds mu mu2 : List Dt} {G G1 : List Cell} {ix : List Nat} {r : Res} : PG X tg (rdG X.K T G mu d G1 ix) → SDs T X W G1 mu body (.ret r mu2) → ForTo T X W tg body (d :: ds) G mu (.ret r mu2)
  | exc {d : Dt} {ds mu mu2 : List Dt} {G G1 : List Cell} {ix : List Nat} {C : Addr} {fs : List (Str × Dt)} : PG X tg (rdG X.K T G mu d G1 ix) → SDs T X W G1 mu body (.exc C fs mu2) → ForTo T X W tg body (d :: ds) G mu (.exc C fs mu2)
def gO (X : Cx) (tg : Expr) : TG := fun v sg H Q => ∃ t, PG X tg t ∧ t v sg H Q
def sO (X : Cx) (body : List Stmt) : TS := fun D sg H => ∃ t, PSs X body t ∧ t D sg H
theorem gO_ok : PG X tg (gO X tg) := ⟨fun pins s1 sg H1 v u Q I r ⟨t, ha, hq⟩ => ha.run pins s1 sg H1 v u Q I r hq⟩
theorem sO_ok : PSs X body (sO X body) := ⟨fun pins s1 sg H1 D I ⟨t, ha, hq⟩ => ha.run pins s1 sg H1 D I hq⟩
theorem sd_for (hp : PassesOwn (model X.prog X.w) X.A X.env X.xe) (hc : X.calm = true) (hi : EvI T X G mu tg iter ds mu1) (hf : ForTo T X W tg body ds G mu1 o) (hs : ∀ x, foldedSetIterable iter X.env x = pure x := by intro _; rfl) : SD T X W G mu (.For tg iter body [] pos) o := by
  refine ps_imp (ps_for hp hc hi gO_ok sO_ok hs) fun D sg H ⟨B, F, fi, e, q⟩ => ⟨B, F, fi, e, fun F1 fi1 H1 J s1 p1 e1 fd => ?_⟩
  refine ⟨fun i m sg H => m = ds.length - i ∧ i ≤ ds.length ∧ ∃ G mu F' fi', ForTo T X W tg body (ds.drop i) G mu o ∧ Sub F1 F' ∧ fi1 <+: fi' ∧ DE X.K T B F' fi' sg H G mu, ⟨_, rfl, Nat.zero_le _, G, mu1, F1, fi1, hf, Sub.refl F1, List.prefix_refl _, e1⟩, ?_⟩
  rintro i m sg2 H2 ⟨rfl, hi2, G2, mu2, F2, fi2, hct, s2, p2, e2⟩
  have q2 := post_next (s1.trans s2) (p1.trans p2) q
  by_cases hlt : i < ds.length
  · have hd : ds[i]? = some ds[i] := List.getElem?_eq_getElem hlt
    rw [List.drop_eq_getElem_cons hlt] at hct
    obtain ⟨g1, g2⟩ := fd.go i ds[i] H2 (s2.trans e2.sub) hd
    refine .inr ⟨g1, fun sg' H' => ∃ G mu F' fi', ForTo T X W tg body (ds.drop (i + 1)) G mu o ∧ Sub F1 F' ∧ fi1 <+: fi' ∧ DE X.K T B F' fi' sg' H' G mu, fun sg' H' hH => ⟨ds.length - (i + 1), by omega, rfl, hlt, hH⟩, fun x H3 hy => ?_⟩
    obtain ⟨F3, s3, e3, h3⟩ := ((g2 x H3 hy).mono s2 p2).at e2
    cases hct with
    | next hg hb hr => exact ⟨_, hg, B, F3, fi2, e3, h3, fun F4 fi4 sg4 H4 s4 p4 e4 _ => ⟨_, hb, B, F4, fi4, e4, fun F5 fi5 sg5 H5 s5 p5 e5 => ⟨_, _, F5, fi5, hr, ((s2.trans s3).trans s4).trans s5, (p2.trans p4).trans p5, e5⟩⟩⟩
    | cont hg hb hr => exact ⟨_, hg, B, F3, fi2, e3, h3, fun F4 fi4 sg4 H4 s4 p4 e4 _ => ⟨_, hb, B, F4, fi4, e4, fun F5 fi5 sg5 H5 s5 p5 e5 => ⟨_, _, F5, fi5, hr, ((s2.trans s3).trans s4).trans s5, (p2.trans p4).trans p5, e5⟩⟩⟩
    | brk hg hb => exact ⟨_, hg, B, F3, fi2, e3, h3, fun F4 fi4 sg4 H4 s4 p4 e4 _ => ⟨_, hb, B, F4, fi4, e4, fun F5 fi5 sg5 H5 s5 p5 e5 => q2 F5 fi5 sg5 H5 ((s3.trans s4).trans s5) (p4.trans p5) e5⟩⟩
    | ret hg hb => exact ⟨_, hg, B, F3, fi2, e3, h3, fun F4 fi4 sg4 H4 s4 p4 e4 _ => ⟨_, hb, B, F4, fi4, e4, fun v F5 fi5 H5 s5 p5 e5 => q2 v F5 fi5 H5 ((s3.trans s4).trans s5) (p4.trans p5) e5⟩⟩
    | exc hg hb => exact ⟨_, hg, B, F3, fi2, e3, h3, fun F4 fi4 sg4 H4 s4 p4 e4 _ => ⟨_, hb, B, F4, fi4, e4, fun d F5 fi5 sg5 H5 s5 p5 e5 => q2 d F5 fi5 sg5 H5 ((s3.trans s4).trans s5) (p4.trans p5) e5⟩⟩
  · have ei : i = ds.length := by omega
    subst ei
    rw [List.drop_length] at hct
    cases hct
    exact .inl ⟨fd.stop H2 (s2.trans e2.sub), q2 F2 fi2 sg2 H2 (Sub.refl F2) (List.prefix_refl _) e2⟩
/-- the turns of a while: at most n -/
inductive WhileTo (T : Tbs) (X : Cx) (W : WX) (c : Expr) (body : List Stmt) : Nat → List Cell → List Dt → SOut → Prop
  | done {n : Nat} {G : List Cell} {mu mu1 : List Dt} : EvT T X G mu c false mu1 → WhileTo T X W c body n G mu (.nx G mu1)
  | next {n : Nat} {G G2 : List Cell} {mu mu1 mu2 : List Dt} {o : SOut} : EvT T X G mu c true mu1 → SDs T X W G mu1 body (.nx G2 mu2) → WhileTo T X W c body n G2 mu2 o → WhileTo T X W c body (n + 1) G mu o
  | cont {n : Nat} {G G2 : List Cell} {mu mu1 mu2 : List Dt} {o : SOut} : EvT T X G mu c true mu1 → SDs T X W G mu1 body (.ct G2 mu2) → WhileTo T X W c body n G2 mu2 o → WhileTo T X W c body (n + 1) G mu o
  | brk {n : Nat} {G G2 : List Cell} {mu mu1 mu2 : List Dt} : EvT T X G mu c true mu1 → SDs T X W G mu1 body (.brk G2 mu2) → WhileTo T X W c body n G mu (.nx G2 mu2)
  | ret {n : Nat} {G : List Cell} {mu mu1 mu2 : List Dt} {r : Res} : EvT T X G mu c true mu1 → SDs T X W G mu1 body (.ret r mu2) → WhileTo T X W c body n G mu (.ret r mu2)
  | exc {n : Nat} {G : List Cell} {mu mu1 mu2 : List Dt} {C : Addr} {fs : List (Str × Dt)} : EvT T X G mu c true mu1 → SDs T X W G mu1 body (.exc C fs mu2) → WhileTo T X W c body n G mu (.exc C fs mu2)
def tO (X : Cx) (c : Expr) : TT := fun sg H Q => ∃ t, PT X c t ∧ t sg H Q
theorem tO_ok : PT X c (tO X c) := ⟨fun pins s1 sg H1 Q I ⟨t, ha, hq⟩ => ha.run pins s1 sg H1 Q I hq⟩
theorem sd_while {n : Nat} (hp : PassesOwn (model X.prog X.w) X.A X.env X.xe) (hw : WhileTo T X W c body n G mu o) : SD T X W G mu (.While c body [] pos) o := by
  refine ps_imp (ps_while hp tO_ok sO_ok) fun D sg H ⟨B, F, fi, e, q⟩ => ?_
  refine ⟨fun m sg H => ∃ G mu F' fi', WhileTo T X W c body m G mu o ∧ Sub F F' ∧ fi <+: fi' ∧ DE X.K T B F' fi' sg H G mu, ⟨n, G, mu, F, fi, hw, Sub.refl F, List.prefix_refl _, e⟩, ?_⟩
  rintro m sg2 H2 ⟨G2, mu2, F2, fi2, hw2, s2, p2, e2⟩
  have q2 := post_next s2 p2 q
  cases hw2 with
  | done ht => exact ⟨_, ht, B, F2, fi2, e2, fun F3 fi3 H3 s3 p3 e3 => iteF (q2 F3 fi3 sg2 H3 s3 p3 e3)⟩
  | next ht hb hr => exact ⟨_, ht, B, F2, fi2, e2, fun F3 fi3 H3 s3 p3 e3 => iteT ⟨fun sg' H' => ∃ G mu F' fi', WhileTo T X W c body _ G mu o ∧ Sub F F' ∧ fi <+: fi' ∧ DE X.K T B F' fi' sg' H' G mu, fun sg' H' hH => ⟨_, Nat.lt_succ_self _, hH⟩, _, hb, B, F3, fi3, e3, fun F4 fi4 sg4 H4 s4 p4 e4 => ⟨_, _, F4, fi4, hr, (s2.trans s3).trans s4, (p2.trans p3).trans p4, e4⟩⟩⟩
  | cont ht hb hr => exact ⟨_, ht, B, F2, fi2, e2, fun F3 fi3 H3 s3 p3 e3 => iteT ⟨fun sg' H' => ∃ G mu F' fi', WhileTo T X W c body _ G mu o ∧ Sub F F' ∧ fi <+: fi' ∧ DE X.K T B F' fi' sg' H' G mu, fun sg' H' hH => ⟨_, Nat.lt_succ_self _, hH⟩, _, hb, B, F3, fi3, e3, fun F4 fi4 sg4 H4 s4 p4 e4 => ⟨_, _, F4, fi4, hr, (s2.trans s3).trans s4, (p2.trans p3).trans p4, e4⟩⟩⟩
  | brk ht hb => exact ⟨_, ht, B, F2, fi2, e2, fun F3 fi3 H3 s3 p3 e3 => iteT ⟨fun _ _ => False, fun _ _ h => h.elim, _, hb, B, F3, fi3, e3, fun F4 fi4 sg4 H4 s4 p4 e4 => q2 F4 fi4 sg4 H4 (s3.trans s4) (p3.trans p4) e4⟩⟩
  | ret ht hb => exact ⟨_, ht, B, F2, fi2, e2, fun F3 fi3 H3 s3 p3 e3 => iteT ⟨fun _ _ => False, fun _ _ h => h.elim, _, hb, B, F3, fi3, e3, fun v F4 fi4 H4 s4 p4 e4 => q2 v F4 fi4 H4 (s3.trans s4) (p3.trans p4) e4⟩⟩
  | exc ht hb => exact ⟨_, ht, B, F2, fi2, e2, fun F3 fi3 H3 s3 p3 e3 => iteT ⟨fun _ _ => False, fun _ _ h => h.elim, _, hb, B, F3, fi3, e3, fun d F4 fi4 sg4 H4 s4 p4 e4 => q2 d F4 fi4 sg4 H4 (s3.trans s4) (p3.trans p4) e4⟩⟩
end
end Dl

set_option Elab.async false
set_option linter.all false
set_option maxRecDepth 100000
set_option maxHeartbeats 4000000
/-! Dl7: all, any of a generator expression whose element may be anything that comes back with a bool. -/
namespace Dl
open PySem PySem.Spec PyProof.Rows L2
section
variable {A : Around} {elt tg iter : Expr} {ifs : List Expr} {scope : Scope} {pos : Pos} {it acc : Value} {env : Env}
theorem over_gs : A.over (.compStart (.GeneratorExp elt [⟨tg, iter, ifs, 0⟩] scope pos) 0 it acc env) [] = A.deeper env := by
  first
    | rfl
    | (obtain ⟨hd, d, fr, gs, u⟩ := A; simp [Around.over, Around.deeper, marksOver, frameCount, unitsOf, envsOf, guardsOf, pushEnvs, pushGuards, Code.envs, Code.env?, Code.isFrame, Code.guards, Code.isGuard, Code.weight, Code.frames, Code.isCreation, Code.isCaller, Code.cUnits])
theorem over_gl : A.over (.compLoop (.GeneratorExp elt [⟨tg, iter, ifs, 0⟩] scope pos) 0 it acc env) [] = A.deeper env := by
  first
    | rfl
    | (obtain ⟨hd, d, fr, gs, u⟩ := A; simp [Around.over, Around.deeper, marksOver, frameCount, unitsOf, envsOf, guardsOf, pushEnvs, pushGuards, Code.envs, Code.env?, Code.isFrame, Code.guards, Code.isGuard, Code.weight, Code.frames, Code.isCreation, Code.isCaller, Code.cUnits])
end
/-- the body's env -/
abbrev gxEnv (X : Cx) (scope : Scope) (C : Addr) (code : Value) : Env := genEnv scope (cloFrom X.env.cells scope.names []) C code builtinsNs X.env
/-- the context of a generator expression's body, made at s, woken under A -/
def gxCx (X : Cx) (A : Around) (N : List Str) (s : Shared) (H : Hp) (scope : Scope) (code : Value) (fp : List Addr) : Cx where
  prog := X.prog
  w := X.w
  K := X.K
  mg := X.mg
  base := X.base
  A := A.deeper (gxEnv X scope s.heap.objs.size code)
  N := N
  s_0 := s
  H_0 := H
  env := gxEnv X scope s.heap.objs.size code
  outer := X.stack
  stack := gxEnv X scope s.heap.objs.size code :: X.stack
  ex := fp
  fn := fun _ => false
  calm := true
  pn := []
  xe := fun _ _ => False
/-- asleep: only the generators' table has changed -/
def Slp (s s' : Shared) : Prop := s'.heap = s.heap ∧ s'.os = s.os ∧ AllBare s'.gens
theorem inv_slp {X : Cx} {pins : List (Addr × Obj)} {σ : L2.St} {H : Hp} {s s' : Shared} (I : Inv X pins σ H s) (h : Slp s s') : Inv X pins σ H s' := by
  obtain ⟨h1, h2, h3⟩ := h
  exact I.call' (ch := []) h2 (by rw [h1]; exact Un.refl) (by rw [h1]; exact I.hok) h3 fun b z => by simp at z
/-- running: the slots sg0 at a turn's start, the i-th turn's state -/
structure GQ (Y : Cx) (pins : List (Addr × Obj)) (fp : List Addr) (tn : Nat → Heap → Prop) (sg : L2.St) (i : Nat) (H : Hp) (s : Shared) : Prop where
  inv : Inv Y pins sg H s
  tn : tn i s.heap
  nf : ∀ b ∈ fp, H b = none
theorem GQ.slp {Y : Cx} {pins : List (Addr × Obj)} {fp : List Addr} {tn : Nat → Heap → Prop} {sg : L2.St} {i : Nat} {H : Hp} {s s' : Shared} (g : GQ Y pins fp tn sg i H s) (h : Slp s s') : GQ Y pins fp tn sg i H s' :=
  ⟨inv_slp g.inv h, by rw [h.1]; exact g.tn, g.nf⟩
/-- an element is out: go on (it is k) or it ends all -/
def GYp (Y : Cx) (pins : List (Addr × Obj)) (fp : List Addr) (tn : Nat → Heap → Prop) (sg : L2.St) (k : Bool) (Fn : Bool → Hp → Prop) : Protocol := fun _ _ v s kap =>
  ∃ b i H, v = .bool b ∧ GQ Y pins fp tn sg i H s ∧ (b = k → ∀ s', Slp s s' → kap (.send .none) s') ∧ (b ≠ k → Fn b H)
def GRe (Y : Cx) (pins : List (Addr × Obj)) (sg : L2.St) (k : Bool) (Fn : Bool → Hp → Prop) : Nat → Shared → Shared → Prop := fun _ _ s => ∃ H, Inv Y pins sg H s ∧ Fn k H
/-- the turns -/
def GxW (J : It) (g : TG) (te : TE) (sg : L2.St) (k : Bool) (Fn : Bool → Hp → Prop) (W : Nat → Nat → Hp → Prop) : Prop :=
  ∀ i m H, W i m H → (J.stop i H ∧ Fn k H) ∨ (J.go i H ∧ ∃ Nx : Hp → Prop, (∀ H', Nx H' → ∃ m', m' < m ∧ W (i + 1) m' H') ∧
    ∀ x H', J.yld i H x H' → g x sg H' fun σ2 H2 => (σ2.length = sg.length ∧ ∀ (j : Nat) v, sg[j]? = some (some v) → σ2[j]? = some (some v)) ∧ te σ2 H2 fun v H3 => ∃ b, v = .bl b ∧ (b = k → Nx H3) ∧ (b ≠ k → Fn b H3))
section
variable {Y : Cx} {A : Around} {elt tg iter : Expr} {scope : Scope} {pos : Pos} {pins : List (Addr × Obj)} {fp : List Addr} {it : Addr} {J : It} {tn : Nat → Heap → Prop} {sg : L2.St} {k : Bool} {Fn : Bool → Hp → Prop} {W : Nat → Nat → Hp → Prop} {g : TG} {te : TE}
theorem seg_gl (hA : A.deeper Y.env = Y.A) (hc : Y.calm = true) (hco : Y.env.scope.isCoroutine = false) (hxe : ∀ e s, Y.xe e s → False) (T : Turn Y.prog Y.w Y.K tg J fp it tn) (fok : ∀ H, (∀ b ∈ fp, H b = none) → ∀ b ∈ fp, FpOk Y pins H b)
    (pg : PG Y tg g) (pe : PE Y elt te) (hW : GxW J g te sg k Fn W) :
    ∀ (m n i : Nat) (H : Hp) (s₀ s : Shared), m < n → W i m H → GQ Y pins fp tn sg i H s →
      Seg (model Y.prog Y.w) A (fun n s₀ r s₁ => r = .ok .next ∧ GRe Y pins sg k Fn n s₀ s₁) (GYp Y pins fp tn sg k Fn) n s₀ (.compLoop (.GeneratorExp elt [⟨tg, iter, [], 0⟩] scope pos) 0 (.ref it) .none Y.env)
        ((model Y.prog Y.w).den (.compLoop (.GeneratorExp elt [⟨tg, iter, [], 0⟩] scope pos) 0 (.ref it) .none Y.env)) [] s := by
  have hB : A.over (.compLoop (.GeneratorExp elt [⟨tg, iter, [], 0⟩] scope pos) 0 (.ref it) .none Y.env) [] = Y.A := over_gl.trans hA
  have ne : ∀ {α : Type} {t : Sem α} {Q Q' : α → Shared → Prop} {E : Value → Shared → Prop} {s : Shared}, wpAny (model Y.prog Y.w) Y.A t Q Y.xe s → (∀ a s, Q a s → Q' a s) → wpAny (model Y.prog Y.w) Y.A t Q' E s :=
    fun h hQ => wpAny_mono h hQ fun e s z => (hxe e s z).elim
  intro m
  induction m using Nat.strongRecOn with
  | ind m ih =>
    intro n i H s₀ s hn w q
    obtain ⟨n, rfl⟩ : ∃ n', n = n' + 1 := ⟨n - 1, by omega⟩
    show Seg _ A _ _ _ s₀ _ ((compTurn (.GeneratorExp elt [⟨tg, iter, [], 0⟩] scope pos) 0 (.ref it) .none Y.env).onRaise (leaving Y.env)) [] s
    rw [compTurn_gen, Sem.onRaise_eq_wrap]
    refine seg_bind_wrap (wpAny_standAt ?_)
    refine seg_bind_wrap ?_
    rw [hB]
    rcases hW i m H w with ⟨stop, fin⟩ | ⟨go, Nx, hNx, step⟩
    · refine thnF (T.done Y rfl rfl rfl hc i pins s sg H (fun _ _ => False) q.inv (fok H q.nf) q.tn stop) fun r s1 ⟨hr, I1⟩ => ?_
      subst hr
      exact seg_end (.ok .next) ⟨rfl, H, I1, fin⟩
    · refine thnF (T.item Y rfl rfl rfl hc i pins s sg H (fun _ _ => False) q.inv (fok H q.nf) q.tn go) fun r s1 ⟨u, hr, h1⟩ => ?_
      subst hr
      refine seg_bind_wrap ?_
      rw [hB]
      refine thnF h1 fun _ s2 ⟨x, H2, I2, r2, y2, st2, n2⟩ => ?_
      have I2' := I2.pinned (fok H2 n2) (T.obj _ _ st2)
      refine seg_bind_wrap ?_
      rw [hB]
      refine ne (pg.run _ s2 sg H2 x u _ I2' r2 (step x H2 y2)) fun _ s3 ⟨σ3, H3, I3, ⟨hl3, hk3⟩, q3⟩ => ?_
      simp only [List.forIn_nil]
      refine seg_bind_wrap (wpAny_pure ?_)
      simp only [if_true]
      have hy : ∀ v, yieldOut Y.env v = yieldValue v := fun v => by simp only [yieldOut, hco, Bool.false_eq_true, if_false]
      simp only [hy]
      rw [Sem.bind_eq_wrap', Sem.bind_eq_wrap', Sem.wrap_wrap, Sem.wrap_wrap]
      refine seg_wrap ?_
      rw [hB]
      refine ne (pe.run _ s3 σ3 H3 _ I3 q3) fun y s4 ⟨v, H4, I4, r4, b, hv, q41, q42⟩ => ?_
      subst hv
      obtain rfl : y = Value.bool b := r4
      have pin' : ∀ b ∈ fp, ∀ o, s2.heap.get? b = some o → s4.heap.get? b = some o ∧ H4 b = none := fun b hb o e =>
        let z := I4.pin (b, o) (List.mem_append_right _ (List.mem_append_right _ (mem_pinsAt hb e)))
        ⟨z.1, z.2.1⟩
      have q4 : GQ Y pins fp tn sg (i + 1) H4 s4 := ⟨(I4.unpinned).weak hl3.symm hk3, T.keep _ _ _ st2 fun b hb o e => (pin' b hb o e).1, fun b hb => by
        obtain ⟨o, e, _⟩ := T.obj _ _ st2 b hb
        exact (pin' b hb o e).2⟩
      refine seg_at (seg_yield rfl rfl rfl ⟨b, i + 1, H4, rfl, q4, fun hb s5 h5 => ?_, q42⟩)
      obtain ⟨m', hm, w'⟩ := hNx H4 (q41 hb)
      exact seg_again rfl (ih m' hm n (i + 1) H4 s5 s5 (by omega) w' (q4.slp h5))

theorem seg_gs (hA : A.deeper Y.env = Y.A) (hc : Y.calm = true) (hco : Y.env.scope.isCoroutine = false) (hxe : ∀ e s, Y.xe e s → False) (T : Turn Y.prog Y.w Y.K tg J fp it tn) (fok : ∀ H, (∀ b ∈ fp, H b = none) → ∀ b ∈ fp, FpOk Y pins H b)
    (pg : PG Y tg g) (pe : PE Y elt te) (hW : GxW J g te sg k Fn W) {m n : Nat} {H : Hp} {s₀ s : Shared} (hn : m < n) (w : W 0 m H) (q : GQ Y pins fp tn sg 0 H s) :
      Seg (model Y.prog Y.w) A (fun n s₀ r s₁ => r = .ok .next ∧ GRe Y pins sg k Fn n s₀ s₁) (GYp Y pins fp tn sg k Fn) n s₀ (.compStart (.GeneratorExp elt [⟨tg, iter, [], 0⟩] scope pos) 0 (.ref it) .none Y.env)
        ((model Y.prog Y.w).den (.compStart (.GeneratorExp elt [⟨tg, iter, [], 0⟩] scope pos) 0 (.ref it) .none Y.env)) [] s := by
  have loop := seg_gl (iter := iter) (scope := scope) (pos := pos) hA hc hco hxe T fok pg pe hW m n 0 H s₀ s hn w q
  show Seg _ A _ _ _ s₀ _ ((compStart (.GeneratorExp elt [⟨tg, iter, [], 0⟩] scope pos) 0 (.ref it) .none Y.env).onRaise (leaving Y.env)) [] s
  unfold compStart
  rw [Sem.onRaise_eq_wrap]
  show Seg _ A _ _ _ s₀ _ ((ask >>= _).wrap _ _ _ _) [] s
  refine seg_bind_wrap (wpAny_askSetting ?_)
  split
  · exact seg_again rfl loop
  · first
      | exact seg_bind_wrap (wpAny_rule (seg_bind_wrap (wpAny_standAt (seg_bind_wrap (T.self _ 0 s _ _ q.tn (seg_again rfl loop))))))
      | (refine seg_bind_wrap (wpAny_rule ?_); show Seg _ A _ _ _ s₀ _ ((standAt iter.pos >>= _).wrap _ _ _ _) [] s; exact seg_bind_wrap (wpAny_standAt (seg_bind_wrap (T.self _ 0 s _ _ q.tn (seg_again rfl loop)))))
/-- the consumer's state: n turns at most -/
structure GSt (Y : Cx) (A : Around) (a : Addr) (gi : Nat) (pins : List (Addr × Obj)) (fp : List Addr) (tn : Nat → Heap → Prop) (sg : L2.St) (k : Bool) (Fn : Bool → Hp → Prop) (n : Nat) (s : Shared) : Prop where
  gen : s.heap.IsGen a gi
  lim : s.heap.NoLimit
  bare : AllBare s.gens
  go : ∃ gs, s.gens[gi]? = some gs ∧ ∀ s', Slp s s' → gs.Goes (model Y.prog Y.w) A (fun n s₀ r s₁ => r = .ok .next ∧ GRe Y pins sg k Fn n s₀ s₁) (GYp Y pins fp tn sg k Fn) n (.send .none) s'
theorem bare_set {s : Shared} {gi : Nat} {x : GenState} (h : AllBare s.gens) (hx : x.bare = true) : AllBare (s.setGen gi x).gens := fun y hy => by
  rcases Array.mem_or_eq_of_mem_setIfInBounds hy with z | z
  · exact h y z
  · rw [z]; exact hx
theorem slp_set {s : Shared} {gi : Nat} {x : GenState} (h : AllBare s.gens) (hx : x.bare = true) : Slp s (s.setGen gi x) := ⟨rfl, rfl, bare_set h hx⟩
/-- one turn of the consumer -/
theorem gx_next {a : Addr} {gi n : Nat} {s : Shared} {E : Value → Shared → Prop} {Q : Option Value → Shared → Prop} {go : Obj} (hh : A.handled = none) (hroom : A.depth < recursionLimit) (hgo : ∃ nm qn, go.cls = .type "generator" ∧ go.data = .fields #[.int gi 0, nm, qn] ∧ go.slots = #[]) (hpin : (a, go) ∈ pins)
    (h : GSt Y A.in1 a gi pins fp tn sg k Fn n s)
    (hend : ∀ H s', Inv Y pins sg H s' → Fn k H → Q none s')
    (hit : ∀ b i H s', GQ Y pins fp tn sg i H s' → (b = k → ∃ m, n = m + 1 ∧ GSt Y A.in1 a gi pins fp tn sg k Fn m s') → (b ≠ k → Fn b H) → Q (some (.bool b)) s') :
    wpAny (model Y.prog Y.w) A (pyNext (.ref a)) Q E s := by
  obtain ⟨h1, h2, h3, gs, h4, h5⟩ := h
  have hlt : gi < s.gens.size := (Array.getElem?_eq_some_iff.mp h4).1
  refine GenW.wpAny_gsz (n := gi + 1) hlt ?_
  refine wpAny_pyNext_genexpQ hh h2 hroom h1 h4 (h5 _ (slp_set h3 rfl)) (fun v s1 gs' hb hv => ?_) (fun s1 hp h' hk => ?_)
  · obtain ⟨b, i, H, rfl, q, q1, q2⟩ := hv
    have hs := slp_set (gi := gi) q.inv.bare hb
    have q' := q.slp hs
    intro hsz
    refine hit b i H _ q' (fun e => ?_) q2
    have q1 := q1 e
    cases n with
    | zero => exact (q1 s1 ⟨rfl, rfl, q.inv.bare⟩).elim
    | succ m =>
      refine ⟨m, rfl, ?_, q'.inv.nolimit, q'.inv.bare, gs', ?_, fun s' hs' => q1 s' ⟨hs'.1, hs'.2.1, hs'.2.2⟩⟩
      · obtain ⟨nm, qn, e1, e2, e3⟩ := hgo
        exact ⟨go, nm, qn, (q'.inv.pin (a, go) (List.mem_append_right _ hpin)).1, e1, e2, e3⟩
      · rw [GenW.setGen_size] at hsz
        show (s1.gens.setIfInBounds gi gs')[gi]? = some gs'
        rw [Array.getElem?_setIfInBounds_self_of_lt hsz]
  · obtain ⟨H, I, f⟩ := hp
    intro _
    refine hend H _ (inv_slp (I.kept (t' := s1.toks) hk) (slp_set (gi := gi) (x := .finished) ?_ rfl)) f
    exact I.bare

theorem all_loop {a : Addr} {gi : Nat} {R : Result → Shared → Prop} {go : Obj} (hh : A.handled = none) (hroom : A.depth < recursionLimit) (hgo : ∃ nm qn, go.cls = .type "generator" ∧ go.data = .fields #[.int gi 0, nm, qn] ∧ go.slots = #[]) (hpin : (a, go) ∈ pins)
    (hR : ∀ b H s', Inv Y pins sg H s' → Fn b H → R (.ok (.ret (.bool b))) s') : ∀ (n : Nat) (s : Shared), GSt Y A.in1.in1 a gi pins fp tn sg true Fn n s → codeAny (model Y.prog Y.w) A (.builtin "all.loop" ⟨[.ref a], []⟩) R s := by
  intro n
  induction n with
  | zero =>
    intro s h
    refine codeAny_builtin F.entry_all_loop ?_
    rw [Around.under_plainId F.plain_all_loop _]
    show wpAny _ A.in1 (pyNext (.ref a) >>= _) _ _ s
    refine wpAny_bind (gx_next hh hroom hgo hpin h (fun H s' I f => ?_) fun b i H s' q q1 q2 => ?_)
    · exact wpAny_bind (wpAny_rule (wpAny_pure (hR true H s' I f)))
    · refine wpAny_bind (wpAny_holding (wpAny_truthy_bool ?_))
      refine wpAny_bind (wpAny_letGo ?_)
      by_cases hb : b = true
      · obtain ⟨m, e, _⟩ := q1 hb
        cases e
      · have hb' : b = !true := by cases b <;> first | rfl | exact absurd rfl hb
        have f := q2 hb
        subst hb'
        simp only [Bool.not_true, Bool.not_false, Bool.false_eq_true, if_false, if_true]
        exact wpAny_bind (wpAny_rule (wpAny_pure (hR _ H s' q.inv f)))
  | succ n ih =>
    intro s h
    refine codeAny_builtin F.entry_all_loop ?_
    rw [Around.under_plainId F.plain_all_loop _]
    show wpAny _ A.in1 (pyNext (.ref a) >>= _) _ _ s
    refine wpAny_bind (gx_next hh hroom hgo hpin h (fun H s' I f => ?_) fun b i H s' q q1 q2 => ?_)
    · exact wpAny_bind (wpAny_rule (wpAny_pure (hR true H s' I f)))
    · refine wpAny_bind (wpAny_holding (wpAny_truthy_bool ?_))
      refine wpAny_bind (wpAny_letGo ?_)
      by_cases hb : b = true
      · obtain ⟨m, e, q3⟩ := q1 hb
        cases e
        subst hb
        simp only [Bool.false_eq_true, if_false, if_true]
        exact wpAny_pure ⟨plainId_quiet F.plain_all_loop _, ih s' q3⟩
      · have hb' : b = !true := by cases b <;> first | rfl | exact absurd rfl hb
        have f := q2 hb
        subst hb'
        simp only [Bool.not_true, Bool.not_false, Bool.false_eq_true, if_false, if_true]
        exact wpAny_bind (wpAny_rule (wpAny_pure (hR _ H s' q.inv f)))

theorem any_loop {a : Addr} {gi : Nat} {R : Result → Shared → Prop} {go : Obj} (hh : A.handled = none) (hroom : A.depth < recursionLimit) (hgo : ∃ nm qn, go.cls = .type "generator" ∧ go.data = .fields #[.int gi 0, nm, qn] ∧ go.slots = #[]) (hpin : (a, go) ∈ pins)
    (hR : ∀ b H s', Inv Y pins sg H s' → Fn b H → R (.ok (.ret (.bool b))) s') : ∀ (n : Nat) (s : Shared), GSt Y A.in1.in1 a gi pins fp tn sg false Fn n s → codeAny (model Y.prog Y.w) A (.builtin "any.loop" ⟨[.ref a], []⟩) R s := by
  intro n
  induction n with
  | zero =>
    intro s h
    refine codeAny_builtin F.entry_any_loop ?_
    rw [Around.under_plainId F.plain_any_loop _]
    show wpAny _ A.in1 (pyNext (.ref a) >>= _) _ _ s
    refine wpAny_bind (gx_next hh hroom hgo hpin h (fun H s' I f => ?_) fun b i H s' q q1 q2 => ?_)
    · exact wpAny_bind (wpAny_rule (wpAny_pure (hR false H s' I f)))
    · refine wpAny_bind (wpAny_holding (wpAny_truthy_bool ?_))
      refine wpAny_bind (wpAny_letGo ?_)
      by_cases hb : b = false
      · obtain ⟨m, e, _⟩ := q1 hb
        cases e
      · have hb' : b = !false := by cases b <;> first | rfl | exact absurd rfl hb
        have f := q2 hb
        subst hb'
        simp only [Bool.not_true, Bool.not_false, Bool.false_eq_true, if_false, if_true]
        exact wpAny_bind (wpAny_rule (wpAny_pure (hR _ H s' q.inv f)))
  | succ n ih =>
    intro s h
    refine codeAny_builtin F.entry_any_loop ?_
    rw [Around.under_plainId F.plain_any_loop _]
    show wpAny _ A.in1 (pyNext (.ref a) >>= _) _ _ s
    refine wpAny_bind (gx_next hh hroom hgo hpin h (fun H s' I f => ?_) fun b i H s' q q1 q2 => ?_)
    · exact wpAny_bind (wpAny_rule (wpAny_pure (hR false H s' I f)))
    · refine wpAny_bind (wpAny_holding (wpAny_truthy_bool ?_))
      refine wpAny_bind (wpAny_letGo ?_)
      by_cases hb : b = false
      · obtain ⟨m, e, q3⟩ := q1 hb
        cases e
        subst hb
        simp only [Bool.false_eq_true, if_false, if_true]
        exact wpAny_pure ⟨plainId_quiet F.plain_any_loop _, ih s' q3⟩
      · have hb' : b = !false := by cases b <;> first | rfl | exact absurd rfl hb
        have f := q2 hb
        subst hb'
        simp only [Bool.not_true, Bool.not_false, Bool.false_eq_true, if_false, if_true]
        exact wpAny_bind (wpAny_rule (wpAny_pure (hR _ H s' q.inv f)))
end
end Dl

set_option Elab.async false
set_option linter.all false
set_option maxRecDepth 100000
set_option maxHeartbeats 4000000
/-! Dl8: the making of a generator expression; all, any of it. -/
namespace Dl
open PySem PySem.Spec PyProof.Rows L2
/-- the generator expression's names: its own (at first unknown), captured ones: N's i-th is XN's cap[i]-th -/
structure GxS (sc scope : Scope) (XN N : List Str) (cap : List (Option Nat)) : Prop where
  kind : scope.kind = .function
  co : scope.isCoroutine = false
  cell : ∀ y ∈ scope.names, y.2 ≠ .cell
  dot : scope.names.lookup (".0" : Str) = some NameKind.local
  free : ∀ y ∈ scope.names, y.2 = .free → sc.names.lookup y.1 = some .cell ∨ sc.names.lookup y.1 = some .free
  len : N.length = cap.length
  at_ : ∀ (i j : Nat), cap[i]? = some (some j) → ∃ x, N[i]? = some x ∧ XN[j]? = some x ∧ scope.names.lookup x = some .free
def gxCapB (scope : Scope) (XN N : List Str) (cap : List (Option Nat)) (i : Nat) : Bool :=
  match cap[i]? with
  | some (some j) => match N[i]?, XN[j]? with
    | some x, some y => decide (x = y) && decide (scope.names.lookup x = some .free)
    | _, _ => false
  | _ => true
def gxSB (sc scope : Scope) (XN N : List Str) (cap : List (Option Nat)) : Bool :=
  decide (scope.kind = .function) && !scope.isCoroutine && (scope.names.all fun y => !decide (y.2 = .cell) && (!decide (y.2 = .free) || decide (sc.names.lookup y.1 = some .cell) || decide (sc.names.lookup y.1 = some .free))) &&
    decide (scope.names.lookup (".0" : Str) = some NameKind.local) && decide (N.length = cap.length) && (List.range cap.length).all (gxCapB scope XN N cap)
theorem gx_by {sc scope : Scope} {XN N : List Str} {cap : List (Option Nat)} (h : gxSB sc scope XN N cap = true) : GxS sc scope XN N cap := by
  unfold gxSB at h
  simp only [Bool.and_eq_true, Bool.or_eq_true, Bool.not_eq_true', decide_eq_true_eq, decide_eq_false_iff_not, List.all_eq_true] at h
  obtain ⟨⟨⟨⟨⟨h1, h2⟩, h3⟩, h4⟩, h5⟩, h6⟩ := h
  refine ⟨h1, h2, fun y hy => (h3 y hy).1, h4, fun y hy e => ?_, h5, fun i j e => ?_⟩
  · rcases (h3 y hy).2 with (z | z) | z
    · exact absurd e z
    · exact .inl z
    · exact .inr z
  · have hi : i < cap.length := (List.getElem?_eq_some_iff.mp e).1
    have z := h6 i (List.mem_range.mpr hi)
    unfold gxCapB at z
    rw [e] at z
    dsimp only at z
    cases e1 : N[i]? with
    | none => rw [e1] at z; cases z
    | some x =>
      cases e2 : XN[j]? with
      | none => rw [e1, e2] at z; cases z
      | some y =>
        rw [e1, e2] at z
        simp only [Bool.and_eq_true, decide_eq_true_eq] at z
        exact ⟨x, rfl, by rw [z.1], z.2⟩
/-- the slots at the start -/
def pick (sg : L2.St) (cap : List (Option Nat)) : L2.St := cap.map fun o => match o with
  | some j => (sg[j]?).join
  | none => none
theorem pick_some {sg : L2.St} {cap : List (Option Nat)} {i : Nat} {v : V} (h : (pick sg cap)[i]? = some (some v)) : ∃ j, cap[i]? = some (some j) ∧ sg[j]? = some (some v) := by
  unfold pick at h
  rw [List.getElem?_map] at h
  cases e : cap[i]? with
  | none => rw [e] at h; cases h
  | some o =>
    rw [e] at h
    cases o with
    | none => cases h
    | some j =>
      refine ⟨j, rfl, ?_⟩
      have h2 : (sg[j]?).join = some v := by simpa using h
      cases e2 : sg[j]? with
      | none => rw [e2] at h2; cases h2
      | some z =>
        rw [e2] at h2
        have h3 : z = some v := h2
        rw [h3]
section
variable {X : Cx} {pins : List (Addr × Obj)} {σ : L2.St} {H : Hp} {s : Shared}
theorem gx_start {A : Around} {scope : Scope} {N : List Str} {cap : List (Option Nat)} {fp : List Addr} {code itv : Value} {s5 : Shared} (I : Inv X pins σ H s) (S : GxS X.env.scope scope X.N N cap) (hh : A.handled = none) (hfr : A.frames = X.A.frames) (hfp : ∀ b ∈ fp, FpOk X pins H b ∧ b < s.heap.objs.size)
    (hos : s5.os = s.os) (hba : AllBare s5.gens) (hns : s5.heap.Ns s.heap.objs.size fun y => if y = ".0" then some itv else none) (kp : ∀ b o, s.heap.get? b = some o → s5.heap.get? b = some o) :
    Inv (gxCx X A N s H scope code fp) [] (pick σ cap) H s5 := by
  have hfree : ∀ y ∈ scope.names, y.2 = .free → ∃ c, X.env.cells.lookup y.1 = some c := fun y hy e => by
    rcases S.free y hy e with k | k
    · exact I.ok.has _ (.inl k)
    · exact I.ok.has _ (.inr k)
  have cm : ∀ {y c}, (cloFrom X.env.cells scope.names []).lookup y = some c → X.env.cells.lookup y = some c := fun {y c} e => by
    rcases cloFrom_mem (PySem.mem_of_lookup e) with hm | ⟨h1, h2⟩
    · cases hm
    · obtain ⟨c1, hc⟩ := hfree _ h1 rfl
      have hc : X.env.cells.lookup y = some c1 := hc
      have e2 : c = c1 := by
        rw [h2, hc] <;> rfl
      rw [e2]
      exact hc
  have look : ∀ {y}, scope.names.lookup y = some .free → ∃ c, (cloFrom X.env.cells scope.names []).lookup y = some c := fun {y} hl => by
    have hy : (y, NameKind.free) ∈ scope.names := PySem.mem_of_lookup hl
    exact mem_lookup (cloFrom_has (cells := X.env.cells) (acc := []) hy)
  refine ⟨⟨I.ok.mod, S.kind, I.ok.glob, rfl, Nat.le_refl _, fun y z c e1 e2 => I.ok.inj y z c (cm e1) (cm e2), fun y hy => ?_, fun y c z _ => ?_, fun _ => hh, Around.frames_deeper (hfr.trans I.ok.frames), .inr ⟨rfl, rfl⟩, fun b hb => ⟨Nat.ne_of_lt (hfp b hb).2, fun y c e => (hfp b hb).1.2.2.2.2.1 y c (cm e)⟩,
      I.bs, Nat.le_trans I.ok.bsz I.sz, fun b o e hb => ?_, fun b hb z => ?_, I.stack, I.stkFree⟩,
    hos, hba, Un.kept kp, ⟨_, hns, fun i y v e1 e2 e3 => ?_⟩, fun y c e => ?_, I.hok.fresh (Nat.le_refl _), fun y c e => I.freeC y c (cm e), fun p hp => absurd (show p ∈ ([] : List (Addr × Obj)) ++ [] from hp) (by simp), I.hok.kept kp, ?_⟩
  · have hy : scope.names.lookup y = some .cell ∨ scope.names.lookup y = some .free := hy
    rcases hy with hy | hy
    · exact absurd rfl (S.cell _ (PySem.mem_of_lookup hy))
    · exact look hy
  · have z : false = true := z
    cases z
  · rcases (hfp b hb).1.2.2.2.1 with z | z
    · exact I.ok.noex b o e z
    · exact absurd (Nat.lt_of_lt_of_le (Heap.lt_size e) (Nat.le_trans I.ok.bsz z)) (Nat.lt_irrefl _)
  · rcases List.mem_cons.mp (I.stkSub b z) with z | z
    · exact (hfp b hb).1.2.1 z
    · exact (hfp b hb).1.2.2.1 z
  · obtain ⟨j, c1, c2⟩ := pick_some e2
    obtain ⟨x, d1, d2, d3⟩ := S.at_ i j c1
    have e1 : N[i]? = some y := e1
    rw [e1] at d1
    cases d1
    obtain ⟨m, hn, hl⟩ := I.loc
    have hvis : Vis X.env.scope y := (S.free _ (PySem.mem_of_lookup d3) rfl).elim (fun k => .inr (.inl k)) (fun k => .inr (.inr k))
    obtain ⟨w', r, q⟩ := hl j y v d2 c2 hvis
    obtain ⟨c2, h2⟩ := look d3
    refine ⟨w', r, .inr ⟨.inr d3, c2, h2, ?_⟩⟩
    have c1 := cm h2
    rcases q with ⟨k', _⟩ | ⟨_, c3, e', z⟩
    · have k' : X.env.scope.names.lookup y = some .local := k'
      rcases S.free _ (PySem.mem_of_lookup d3) rfl with k2 | k2 <;> rw [show X.env.scope.names.lookup y = _ from k2] at k' <;> cases k'
    · rw [c1] at e'
      cases e'
      exact z.keeps kp
  · obtain ⟨w', z⟩ := I.cell y c (cm e)
    exact ⟨w', z.keeps kp⟩
  · show (pick σ cap).length = N.length
    unfold pick
    rw [List.length_map, S.len]

/-- a generator that has not begun, seen from the def that made it -/
def GxMade (X : Cx) (pins : List (Addr × Obj)) (σ : L2.St) (k : Bool) (Fn : Bool → Hp → Prop) (a : Addr) (s5 : Shared) : Prop :=
  ∃ (Y : Cx) (pins' : List (Addr × Obj)) (fp : List Addr) (tn : Nat → Heap → Prop) (sg : L2.St) (go : Obj) (gi n : Nat), Y.prog = X.prog ∧ Y.w = X.w ∧ GSt Y X.A.in1.in1 a gi pins' fp tn sg k Fn n s5 ∧
    (∃ nm qn, go.cls = .type "generator" ∧ go.data = .fields #[.int gi 0, nm, qn] ∧ go.slots = #[]) ∧ (a, go) ∈ pins' ∧ ∀ H' s', Inv Y pins' sg H' s' → Inv X pins σ H' s'
theorem gx_make {c P : Addr} {elt tg iter : Expr} {gpos : Pos} {scope : Scope} {N : List Str} {cap : List (Option Nat)} {wi : TI} {g : TG} {te : TE} {kk : Bool} {Fn : Bool → Hp → Prop} {k : Nat} {Q' : Value → Shared → Prop}
    (hr : Room (k + 1) X.A) (TB : GxR.TabB X.base X.mg c P) (hcode : X.env.code = .ref c) (S : GxS X.env.scope scope X.N N cap) (hi : PI X tg iter wi)
    (hg : ∀ (s : Shared) (H : Hp) (code : Value) (fp : List Addr), PG (gxCx X X.A.in1.in1 N s H scope code fp) tg g) (he : ∀ (s : Shared) (H : Hp) (code : Value) (fp : List Addr), PE (gxCx X X.A.in1.in1 N s H scope code fp) elt te)
    (hs : ∀ v, genFold iter X.env v = pure v) (I : Inv X pins σ H s) (h : wi σ H fun J H1 => GxR.TabG H1 P ∧ ∀ H2, GxR.Tabbed P H1 H2 → ∃ W : Nat → Nat → Hp → Prop, (∃ m, W 0 m H2) ∧ GxW J g te (pick σ cap) kk Fn W)
    (hQ : ∀ a s5, GxMade X pins σ kk Fn a s5 → Q' (.ref a) s5) : wpAny (model X.prog X.w) X.A (eval (.GeneratorExp elt [⟨tg, iter, [], 0⟩] scope gpos) X.env) Q' X.xe s := by
  have hfree : ∀ y ∈ scope.names, y.2 = .free → ∃ c, X.env.cells.lookup y.1 = some c := fun y hy e => by
    rcases S.free y hy e with k | k
    · exact I.ok.has _ (.inl k)
    · exact I.ok.has _ (.inr k)
  refine wpAny_GeneratorExp_make S.co (closure_ok hfree) S.cell S.dot S.kind (by have := hr.dp; omega) ?_ hs
  refine thn (hi.run pins s σ H _ I h) fun xv s1 h1 => thn h1 fun itv s2 h2 => ?_
  obtain ⟨it, fp, tn, J, H1, e, I1, T, st1, f1, ⟨ps, hP, ht⟩, w1⟩ := h2
  subst e
  refine ⟨I1.nolimit, ?_⟩
  have hPs : s2.heap.get? P = some { cls := .none, data := .fields ps } := I1.hok P _ hP
  have cd : PySem.W.CodeHd s2.heap c P := TB.code.keeps I1.bk
  have nofP : ∀ b ∈ fp, b ≠ P := fun b hb z => by
    have q := (f1 b hb).1
    rw [z, hP] at q
    cases q
  have cont : ∀ (code : Value) (h3 : Heap) (tk : Nat) (ps' : Array Value), Heap.ExtBut P s2.heap h3 → s2.heap.objs.size ≤ h3.objs.size → h3.get? P = some { cls := .none, data := .fields ps' } → (∃ more, ps' = ps ++ more) → TriplesOk ps'.toList →
      wpAny (model X.prog X.w) X.A (builtinsFor X.env.globals X.env.builtins) (fun bi s₄ =>
        ∀ h', h'.Ns s₄.heap.objs.size (fun y => if y = ".0" then some (.ref it) else none) → Heap.SameBut s₄.heap.objs.size (s₄.heap.push { cls := .type "frame", data := .dict #[] }) h' →
          Q' (.ref h'.objs.size) { s₄ with
            gens := s₄.gens.push (.fresh (.compStart (.GeneratorExp elt [⟨tg, iter, [], 0⟩] scope gpos) 0 (.ref it) .none (genEnv scope (cloFrom X.env.cells scope.names []) s₄.heap.objs.size code bi X.env))),
            toks := s₄.toks + 1 + 1 + 1,
            heap := h'.push { cls := .type "generator", data := .fields #[.int s₄.gens.size 0, .str "<genexpr>" (s₄.toks + 1), .str (X.env.qual ++ "<genexpr>") (s₄.toks + 1 + 1)] } }) X.xe { s2 with heap := h3, toks := tk } := by
    intro code h3 tk ps' hx hsz hP3 hmore ht3
    obtain ⟨bm, ob, e1, e2, e3, e4, e5, e6, e7, e8⟩ := TB.bm
    have keep3 : ∀ b u, b ≠ P → s2.heap.get? b = some u → h3.get? b = some u := fun b u hb e => hx b u hb e
    refine wpAny_builtinsFor (m := X.mg) (by rw [I1.ok.glob]; exact (I1.mod.glob.keeps I1.bk).extBut hx TB.gP) e1 e2 (keep3 _ _ e4 (I1.bk _ _ e5)) e6 e7 e8 ?_
    obtain ⟨more, em⟩ := hmore
    subst em
    have I3 : Inv X pins σ (upd H1 P (.tbl (ps ++ more))) { s2 with heap := h3, toks := tk } := GxR.inv_tab (g' := s2.gens) (d' := s2.drawn) (t' := tk) I1 hP keep3 hP3 I1.bare
    obtain ⟨W, ⟨m0, w0⟩, hW⟩ := w1 (upd H1 P (.tbl (ps ++ more))) ⟨⟨ps ++ more, upd_same, ht3⟩, fun b hb => upd_ne hb⟩
    generalize hH3 : upd H1 P (.tbl (ps ++ more)) = H3 at I3 w0
    have f3 : ∀ b ∈ fp, FpOk X pins H3 b ∧ b < h3.objs.size := fun b hb => by
      obtain ⟨o, e, _⟩ := T.obj _ _ st1 b hb
      refine ⟨⟨?_, (f1 b hb).2⟩, Nat.lt_of_lt_of_le (Heap.lt_size e) hsz⟩
      rw [← hH3, upd_ne (nofP b hb)]
      exact (f1 b hb).1
    have st3 : tn 0 h3 := T.keep _ _ _ st1 fun b hb o e => keep3 b o (nofP b hb) e
    generalize hs3 : ({ s2 with heap := h3, toks := tk } : Shared) = s3 at I3
    have hh3 : s3.heap = h3 := by rw [← hs3]
    rw [← hh3] at f3 st3
    intro h' hn' hs'
    show Q' (.ref h'.objs.size) { s3 with
            gens := s3.gens.push (.fresh (.compStart (.GeneratorExp elt [⟨tg, iter, [], 0⟩] scope gpos) 0 (.ref it) .none (gxEnv X scope s3.heap.objs.size code))),
            toks := s3.toks + 1 + 1 + 1,
            heap := h'.push { cls := .type "generator", data := .fields #[.int s3.gens.size 0, .str "<genexpr>" (s3.toks + 1), .str (X.env.qual ++ "<genexpr>") (s3.toks + 1 + 1)] } }
    have hsz' : h'.objs.size = s3.heap.objs.size + 1 := by rw [hs'.1, Heap.size_push]
    have keep' : ∀ b o, s3.heap.get? b = some o → h'.get? b = some o := fun b o e => hs'.extBut b o (Nat.ne_of_lt (Heap.lt_size e)) (Heap.get?_push_of_some _ e)
    generalize hgo : ({ cls := .type "generator", data := .fields #[.int s3.gens.size 0, .str "<genexpr>" (s3.toks + 1), .str (X.env.qual ++ "<genexpr>") (s3.toks + 1 + 1)] } : Obj) = go
    have hgp : (h'.push go).get? h'.objs.size = some go := by
      rw [← hgo]
      exact Heap.get?_push_size _ rfl
    have hgf : ∃ nm qn, go.cls = .type "generator" ∧ go.data = .fields #[.int s3.gens.size 0, nm, qn] ∧ go.slots = #[] := by
      rw [← hgo]
      exact ⟨_, _, rfl, rfl, rfl⟩
    have keep5 : ∀ b o, s3.heap.get? b = some o → (h'.push go).get? b = some o := fun b o e => Heap.get?_push_of_some _ (keep' b o e)
    have I5 : Inv (gxCx X X.A.in1.in1 N s3 H3 scope code fp) [] (pick σ cap) H3 { s3 with
            gens := s3.gens.push (.fresh (.compStart (.GeneratorExp elt [⟨tg, iter, [], 0⟩] scope gpos) 0 (.ref it) .none (gxEnv X scope s3.heap.objs.size code))), toks := s3.toks + 1 + 1 + 1, heap := h'.push go } :=
      gx_start I3 S hr.hd rfl f3 rfl (I3.bare.push rfl) (hn'.push _) keep5
    have young : ∀ b, h'.objs.size ≤ b → H3 b = none ∧ b ∉ frs X.stack := fun b hb => by
      have h9 : s3.heap.objs.size ≤ b := Nat.le_trans (by rw [hsz']; exact Nat.le_succ _) hb
      refine ⟨I3.hok.fresh h9, fun z => ?_⟩
      rcases List.mem_cons.mp (I3.stkSub _ z) with e | e
      · have h1 := I3.lt
        rw [← e] at h1
        exact Nat.lt_irrefl _ (Nat.lt_of_lt_of_le h1 h9)
      · exact I3.nofs h9 e
    have I6 := I5.pins_of (pins' := [(h'.objs.size, go)]) fun p hp => by
      rw [List.mem_singleton.mp hp]
      obtain ⟨y1, y2⟩ := young h'.objs.size (Nat.le_refl _)
      obtain ⟨nm, qn, q1, q2, q3⟩ := hgf
      refine ⟨hgp, y1, ?_, y2, fun v z => by rw [q2] at z; cases z⟩
      show h'.objs.size ≠ s3.heap.objs.size
      omega
    generalize hs5 : ({ s3 with
            gens := s3.gens.push (.fresh (.compStart (.GeneratorExp elt [⟨tg, iter, [], 0⟩] scope gpos) 0 (.ref it) .none (gxEnv X scope s3.heap.objs.size code))), toks := s3.toks + 1 + 1 + 1, heap := h'.push go } : Shared) = s5 at I6
    have h5 : s5.heap = h'.push go := by rw [← hs5]
    have g5 : s5.gens[s3.gens.size]? = some (.fresh (.compStart (.GeneratorExp elt [⟨tg, iter, [], 0⟩] scope gpos) 0 (.ref it) .none (gxEnv X scope s3.heap.objs.size code))) := by
      rw [← hs5]
      exact Array.getElem?_push_size ..
    have q5 : GQ (gxCx X X.A.in1.in1 N s3 H3 scope code fp) [(h'.objs.size, go)] fp tn (pick σ cap) 0 H3 s5 := ⟨I6, T.keep _ _ _ st3 fun b hb o e => by rw [h5]; exact keep5 b o e, fun b hb => (f3 b hb).1.1⟩
    refine hQ _ _ ⟨gxCx X X.A.in1.in1 N s3 H3 scope code fp, [(h'.objs.size, go)], fp, tn, pick σ cap, go, s3.gens.size, m0 + 1, rfl, rfl, ⟨?_, I6.nolimit, I6.bare, _, g5, fun s' hs' => ⟨rfl, ?_⟩⟩, hgf, List.mem_singleton.mpr rfl, fun H' s' J => ?_⟩
    · obtain ⟨nm, qn, q1, q2, q3⟩ := hgf
      exact ⟨go, nm, qn, by rw [h5]; exact hgp, q1, q2, q3⟩
    · refine seg_gs (Y := gxCx X X.A.in1.in1 N s3 H3 scope code fp) (A := X.A.in1.in1) rfl rfl S.co (fun _ _ z => z) T (fun H hn b hb => ?_) (hg s3 H3 code fp) (he s3 H3 code fp) hW (Nat.lt_succ_self m0) w0 (q5.slp hs')
      have q := (I5.ok.exf b hb)
      refine ⟨hn b hb, q.1, I5.ok.exfs b hb, .inl hb, fun x c e => q.2 x c e, fun p hp => ?_⟩
      have hp2 : p ∈ [(h'.objs.size, go)] := by
        rcases List.mem_append.mp hp with z | z
        · exact absurd (show p ∈ ([] : List (Addr × Obj)) from z) (by simp)
        · exact z
      rw [List.mem_singleton.mp hp2]
      have h7 := (f3 b hb).2
      show h'.objs.size ≠ b
      exact Nat.ne_of_gt (Nat.lt_trans h7 (by rw [hsz']; exact Nat.lt_succ_self _))
    · exact I3.call' (ch := fp) J.os J.base J.hok J.bare fun b hb => ⟨(f3 b hb).1.2.2.2.1, (f3 b hb).1.2.1, (f3 b hb).1.2.2.2.2.1, (f3 b hb).1.2.2.2.2.2⟩
  cases hf : codeAmong gpos ps.toList with
  | none =>
    refine wpAny_genexprCodeX hcode (cd.code hPs ht) (cd.tab hPs) hf fun c' h' tk hx hge hlt hco' _ htab' _ => ?_
    obtain ⟨o1, vs, f1', tf, fl, tg', inF, tx, tt, op, _, _, _, _, _, _, _, _, _, htr, _⟩ := hco'
    exact cont _ h' tk _ hx (Nat.le_trans hge (Nat.le_of_lt hlt)) htab'.2 ⟨_, rfl⟩ htr
  | some cv =>
    refine wpAny_genexprCode_hit hcode (cd.code hPs ht) hf ?_
    exact cont cv s2.heap s2.toks ps (Heap.ExtBut.refl _ _) (Nat.le_refl _) hPs ⟨#[], by simp⟩ ht

def tGx (P : Addr) (cap : List (Option Nat)) (kk : Bool) (wi : TI) (g : TG) (te : TE) : TE := fun σ H Q =>
  wi σ H fun J H1 => GxR.TabG H1 P ∧ ∀ H2, GxR.Tabbed P H1 H2 → ∃ W : Nat → Nat → Hp → Prop, (∃ m, W 0 m H2) ∧ GxW J g te (pick σ cap) kk (fun b H' => Q (.bl b) H') W

theorem pe_allG {c P : Addr} {elt tg iter : Expr} {p pos gpos : Pos} {scope : Scope} {N : List Str} {cap : List (Option Nat)} {wi : TI} {g : TG} {te : TE} {k : Nat}
    (hr : Room (k + 1) X.A) (hgl : Gl X "all") (hm : X.mg "all" = none) (hb : bootBuiltins "all" = some (.builtin "all")) (TB : GxR.TabB X.base X.mg c P) (hcode : X.env.code = .ref c) (S : GxS X.env.scope scope X.N N cap) (hi : PI X tg iter wi)
    (hg : ∀ (s : Shared) (H : Hp) (code : Value) (fp : List Addr), PG (gxCx X X.A.in1.in1 N s H scope code fp) tg g) (he' : ∀ (s : Shared) (H : Hp) (code : Value) (fp : List Addr), PE (gxCx X X.A.in1.in1 N s H scope code fp) elt te)
    (hs : ∀ v, genFold iter X.env v = pure v)
    (he : starEach [.GeneratorExp elt [⟨tg, iter, [], 0⟩] scope gpos] X.env = (false, eval (.GeneratorExp elt [⟨tg, iter, [], 0⟩] scope gpos) X.env) :: starEach [] X.env := by rfl) :
    PE X (.Call (.Name "all" p) [.GeneratorExp elt [⟨tg, iter, [], 0⟩] scope gpos] [] pos) (tGx P cap true wi g te) := by
  refine ⟨fun pins s σ H Q I h => ?_⟩
  refine wpAny_Call_Name_kw (ld_blt I hgl hm hb ?_)
  refine PyProof.Rows.callWith_builtin1 ?_ he (by rfl)
  rw [he]
  show wpAny _ _ (spliced ((false, eval (.GeneratorExp elt [⟨tg, iter, [], 0⟩] scope gpos) X.env) :: backTo pos (starEach [] X.env))) _ _ s
  refine Calls.spliced_cons (gx_make (Fn := fun b H' => Q (.bl b) H') hr TB hcode S hi hg he' hs I h fun a s5 hG => ?_)
  obtain ⟨Y, pins', fp, tn, sg, go, gi, n, eP, ew, hst, hgo, hpin, back⟩ := hG
  refine Calls.spliced_nil ?_
  refine call_function_tree F.kind_all F.plain_all F.entry_all (F.args_all1 _) ?_
  unfold Builtin.«all»
  refine wpAny_bind (m := oneArg "all" _) (wpAny_pure ?_)
  refine wpAny_bind (wpAny_pyIter_gen hst.gen ?_)
  refine wpAny_pure ⟨plainId_quiet F.plain_all_loop _, ?_⟩
  rw [← eP, ← ew]
  exact all_loop hr.hd (by have := hr.dp; omega) hgo hpin (fun b H' s' J q => ⟨.bl b, H', back H' s' J, rfl, q⟩) n s5 hst

theorem pe_anyG {c P : Addr} {elt tg iter : Expr} {p pos gpos : Pos} {scope : Scope} {N : List Str} {cap : List (Option Nat)} {wi : TI} {g : TG} {te : TE} {k : Nat}
    (hr : Room (k + 1) X.A) (hgl : Gl X "any") (hm : X.mg "any" = none) (hb : bootBuiltins "any" = some (.builtin "any")) (TB : GxR.TabB X.base X.mg c P) (hcode : X.env.code = .ref c) (S : GxS X.env.scope scope X.N N cap) (hi : PI X tg iter wi)
    (hg : ∀ (s : Shared) (H : Hp) (code : Value) (fp : List Addr), PG (gxCx X X.A.in1.in1 N s H scope code fp) tg g) (he' : ∀ (s : Shared) (H : Hp) (code : Value) (fp : List Addr), PE (gxCx X X.A.in1.in1 N s H scope code fp) elt te)
    (hs : ∀ v, genFold iter X.env v = pure v)
    (he : starEach [.GeneratorExp elt [⟨tg, iter, [], 0⟩] scope gpos] X.env = (false, eval (.GeneratorExp elt [⟨tg, iter, [], 0⟩] scope gpos) X.env) :: starEach [] X.env := by rfl) :
    PE X (.Call (.Name "any" p) [.GeneratorExp elt [⟨tg, iter, [], 0⟩] scope gpos] [] pos) (tGx P cap false wi g te) := by
  refine ⟨fun pins s σ H Q I h => ?_⟩
  refine wpAny_Call_Name_kw (ld_blt I hgl hm hb ?_)
  refine PyProof.Rows.callWith_builtin1 ?_ he (by rfl)
  rw [he]
  show wpAny _ _ (spliced ((false, eval (.GeneratorExp elt [⟨tg, iter, [], 0⟩] scope gpos) X.env) :: backTo pos (starEach [] X.env))) _ _ s
  refine Calls.spliced_cons (gx_make (Fn := fun b H' => Q (.bl b) H') hr TB hcode S hi hg he' hs I h fun a s5 hG => ?_)
  obtain ⟨Y, pins', fp, tn, sg, go, gi, n, eP, ew, hst, hgo, hpin, back⟩ := hG
  refine Calls.spliced_nil ?_
  refine call_function_tree F.kind_any F.plain_any F.entry_any (F.args_any1 _) ?_
  unfold Builtin.«any»
  refine wpAny_bind (m := oneArg "any" _) (wpAny_pure ?_)
  refine wpAny_bind (wpAny_pyIter_gen hst.gen ?_)
  refine wpAny_pure ⟨plainId_quiet F.plain_any_loop _, ?_⟩
  rw [← eP, ← ew]
  exact any_loop hr.hd (by have := hr.dp; omega) hgo hpin (fun b H' s' J q => ⟨.bl b, H', back H' s' J, rfl, q⟩) n s5 hst
end
end Dl

set_option Elab.async false
set_option linter.all false
set_option maxRecDepth 100000
set_option maxHeartbeats 4000000
/-! Dl9: all, any of a generator expression, on data. -/
namespace Dl
open PySem PySem.Spec PyProof.Rows L2
/-- what the captured names hold -/
def capG (G : List Cell) (cap : List (Option Nat)) : List Cell := cap.map fun o => match o with
  | some j => (G[j]?).getD .no
  | none => .no
section
variable {K : PySem.W.Frag} {T : Tbs} {B : Bs} {F F' : Hp} {fi fi' : List Addr} {sg sg' : L2.St} {H H' : Hp} {G G' : List Cell} {mu mu1 mu2 mu' : List Dt} {v : V} {d m : Dt} {i : Nat} {cap : List (Option Nat)}
theorem capG_val {c : Cell} (h : (capG G cap)[i]? = some c) (hn : c ≠ .no) : ∃ j, cap[i]? = some (some j) ∧ G[j]? = some c := by
  unfold capG at h
  rw [List.getElem?_map] at h
  cases e : cap[i]? with
  | none => rw [e] at h; cases h
  | some o =>
    rw [e] at h
    cases o with
    | none => exact absurd (Option.some.inj h).symm hn
    | some j =>
      refine ⟨j, rfl, ?_⟩
      have h2 : (G[j]?).getD .no = c := Option.some.inj h
      cases e2 : G[j]? with
      | none => rw [e2] at h2; exact absurd h2.symm hn
      | some z => rw [e2] at h2; rw [← h2]; rfl
theorem capG_at {c : Cell} {j : Nat} (e : cap[i]? = some (some j)) (h : G[j]? = some c) : (capG G cap)[i]? = some c := by
  unfold capG
  rw [List.getElem?_map, e]
  show some ((G[j]?).getD .no) = some c
  rw [h]
  rfl
theorem pick_at {j : Nat} {o : Option V} (e : cap[i]? = some (some j)) (h : sg[j]? = some o) : (pick sg cap)[i]? = some o := by
  unfold pick
  rw [List.getElem?_map, e]
  show some (sg[j]?).join = some o
  rw [h]
  rfl
/-- two captured names are of two slots -/
def CapInj (cap : List (Option Nat)) : Prop := ∀ (i i' j : Nat), cap[i]? = some (some j) → cap[i']? = some (some j) → i = i'
theorem DE.capt (e : DE K T B F fi sg H G mu) (hj : CapInj cap) : DE K T (Bs.now F fi (pick sg cap) H (capG G cap)) F fi (pick sg cap) H (capG G cap) mu where
  sub := e.sub
  tab := e.tab
  len := by unfold pick capG; rw [List.length_map, List.length_map]
  lenm := e.lenm
  slot := fun i d h => by
    obtain ⟨j, h1, h2⟩ := capG_val h (by intro z; cases z)
    obtain ⟨v, h3, h4⟩ := e.slot j d h2
    exact ⟨v, pick_at h1 h3, h4⟩
  own := fun i m h => by
    obtain ⟨j, h1, h2⟩ := capG_val h (by intro z; cases z)
    obtain ⟨p, h3, h4, h5, h6⟩ := e.own j m h2
    exact ⟨p, pick_at h1 h3, h4, h5, now_own ⟨i, m, h, pick_at h1 h3⟩⟩
  obj := e.obj
  oo := fun i i' m n p g1 g2 s1 s2 => by
    obtain ⟨j, h1, h2⟩ := capG_val g1 (by intro z; cases z)
    obtain ⟨j', h1', h2'⟩ := capG_val g2 (by intro z; cases z)
    obtain ⟨k, c1, c2⟩ := pick_some s1
    obtain ⟨k', c1', c2'⟩ := pick_some s2
    rw [h1] at c1
    rw [h1'] at c1'
    cases c1
    cases c1'
    have ej := e.oo j j' m n p h2 h2' c2 c2'
    subst ej
    exact hj i i' j h1 h1'
  om := fun i m p j g s => by
    obtain ⟨k, h1, h2⟩ := capG_val g (by intro z; cases z)
    obtain ⟨k', c1, c2⟩ := pick_some s
    rw [h1] at c1
    cases c1
    exact e.om k m p j h2 c2
  mm := e.mm
  frame := fun a o h _ _ => (now_some h).1
  fold := fun a h => h
  fpre := fun a h => .inl h
  fnew := fun a o h => .inl h
theorem DE.uncapt (e : DE K T B F fi sg H G mu) (e' : DE K T (Bs.now F fi (pick sg cap) H (capG G cap)) F' fi' (pick sg cap) H' (capG G cap) mu') (s : Sub F F') (pp : fi <+: fi') : DE K T B F' fi' sg H' G mu' := by
  -- an own object of a slot that isn't captured is none of the others'
  have apart : ∀ (i : Nat) (m : Dt) (p : Addr), G[i]? = some (.own m) → sg[i]? = some (some (.ref p)) → (∀ k : Nat, cap[k]? ≠ some (some i)) → ¬ IsOwn (pick sg cap) (capG G cap) p := fun i m p g1 g2 hk ⟨k, n, z1, z2⟩ => by
    obtain ⟨j, h1, h2⟩ := capG_val z1 (by intro z; cases z)
    obtain ⟨j', c1, c2⟩ := pick_some z2
    rw [h1] at c1
    cases c1
    have ej := e.oo i j m n p g1 h2 g2 c2
    subst ej
    exact hk k h1
  have capt : ∀ (a : Addr), IsOwn (pick sg cap) (capG G cap) a → ∃ (k j : Nat) (m : Dt), cap[k]? = some (some j) ∧ G[j]? = some (Cell.own m) ∧ sg[j]? = some (some (V.ref a)) := fun a ⟨k, n, z1, z2⟩ => by
    obtain ⟨j, h1, h2⟩ := capG_val z1 (by intro z; cases z)
    obtain ⟨j', c1, c2⟩ := pick_some z2
    rw [h1] at c1
    cases c1
    exact ⟨k, j, n, h1, h2, c2⟩
  have bnone : ∀ (a : Addr), IsOwn (pick sg cap) (capG G cap) a → B.H a = none := fun a h => by
    obtain ⟨k, j, m, h1, h2, h3⟩ := capt a h
    obtain ⟨p, a', _, _, d⟩ := e.own j m h2
    rw [h3] at a'
    cases a'
    exact d
  refine ⟨e'.sub, e'.tab, e.len, e'.lenm, fun i d h => ?_, fun i m h => ?_, e'.obj, e.oo, fun i m p j g1 g2 z => ?_, e'.mm, fun a o h1 h2 h3 => ?_, fun a h => e'.fold a (e.fold a h), fun a h => ?_, fun a o h => ?_⟩
  · obtain ⟨v, h1, h2⟩ := e.slot i d h
    exact ⟨v, h1, h2.mono s pp⟩
  · obtain ⟨p, h1, h2, h3, h4⟩ := e.own i m h
    by_cases hc : ∃ k : Nat, cap[k]? = some (some i)
    · obtain ⟨k, hk⟩ := hc
      obtain ⟨p', a1, a2, a3, _⟩ := e'.own k m (capG_at hk h)
      rw [pick_at hk h1] at a1
      cases a1
      exact ⟨p, h1, a2, a3, h4⟩
    · have hk : ∀ k : Nat, cap[k]? ≠ some (some i) := fun k z => hc ⟨k, z⟩
      have na := apart i m p h h1 hk
      cases m with
      | lst ds =>
        obtain ⟨vs, q1, q2⟩ := h3
        have nb : (Bs.now F fi (pick sg cap) H (capG G cap)).H p = some (.lst vs) := by rw [now_not na]; exact q1
        have nf : p ∉ fi := fun z => by
          obtain ⟨j, hj⟩ := List.getElem?_of_mem z
          exact e.om i _ p j h h1 hj
        have nt : p ∉ T := e.tabne q1 (fun q z => by cases z)
        have q3 := e'.frame p _ nb nf nt
        refine ⟨p, h1, ?_, ⟨vs, q3, ?_⟩, h4⟩
        · cases q : F' p with
          | none => rfl
          | some o =>
            rcases e'.fnew p o q with y | y
            · have y : F p = some o := y
              rw [h2] at y; cases y
            · rw [nb] at y; cases y
        · exact q2.mono s pp
      | dic t ks ds =>
        obtain ⟨u, ka, vs, q1, qk, q3k, q2⟩ := h3
        have nb : (Bs.now F fi (pick sg cap) H (capG G cap)).H p = some u := by rw [now_not na]; exact q1
        have nf : p ∉ fi := fun z => by
          obtain ⟨j, hj⟩ := List.getElem?_of_mem z
          exact e.om i _ p j h h1 hj
        have nt : p ∉ T := e.tabne q1 qk.notTbl
        have q3 := e'.frame p _ nb nf nt
        refine ⟨p, h1, ?_, ⟨u, ka, vs, q3, qk, q3k.mono s pp, ?_⟩, h4⟩
        · cases q : F' p with
          | none => rfl
          | some o =>
            rcases e'.fnew p o q with y | y
            · have y : F p = some o := y
              rw [h2] at y; cases y
            · rw [nb] at y; cases y
        · exact q2.mono s pp
      | _ => exact h3.elim
  · have hz : p ∈ fi' := List.mem_of_getElem? z
    rcases e'.fpre p hz with y | y
    · obtain ⟨j', hj⟩ := List.getElem?_of_mem (show p ∈ fi from y)
      exact e.om i m p j' g1 g2 hj
    · by_cases no : IsOwn (pick sg cap) (capG G cap) p
      · obtain ⟨k, n, z1, z2⟩ := no
        exact e'.om k n p j z1 z2 z
      · rw [now_not no] at y
        obtain ⟨p', a1, a2, a3, _⟩ := e.own i m g1
        rw [g2] at a1
        cases a1
        obtain ⟨o, ho, _⟩ := a3.some
        rw [ho] at y
        cases y
  · have g := e.frame a o h1 h2 h3
    have no : ¬ IsOwn (pick sg cap) (capG G cap) a := fun z => by
      have := bnone a z
      rw [h1] at this
      cases this
    have nf : a ∉ fi := fun z => by
      rcases e.fpre a z with y | y
      · exact h2 y
      · rw [h1] at y
        cases y
    exact e'.frame a o (by rw [now_not no]; exact g) nf h3
  · rcases e'.fpre a h with y | y
    · exact e.fpre a y
    · by_cases no : IsOwn (pick sg cap) (capG G cap) a
      · exact .inr (bnone a no)
      · rw [now_not no] at y
        exact .inr (e.old y)
  · rcases e'.fnew a o h with y | y
    · exact e.fnew a o y
    · by_cases no : IsOwn (pick sg cap) (capG G cap) a
      · exact .inr (bnone a no)
      · rw [now_not no] at y
        exact .inr (e.old y)

theorem DE.tabbed (e : DE K T B F fi sg H G mu) {P : Addr} (hP : P ∈ T) (hq : T.q P = none) (h : GxR.Tabbed P H H') : DE K T B F fi sg H' G mu := by
  obtain ⟨h1, h2⟩ := h
  obtain ⟨p1, ps, p3, p4⟩ := e.tab P hP
  have ne : ∀ {a : Addr} {m : Dt}, Ob K F fi H a m → a ≠ P := fun {a m} ho z => by
    obtain ⟨o, q, hn⟩ := ho.some
    rw [z, p3] at q
    exact hn _ (Option.some.inj q).symm
  refine ⟨fun a o q => ?_, fun p hp => ?_, e.len, e.lenm, e.slot, fun i m q => ?_, fun j a m q1 q2 => ?_, e.oo, e.om, e.mm, fun a o q1 q2 q3 => ?_, e.fold, e.fpre, e.fnew⟩
  · have z : a ≠ P := fun z => by rw [z, p1] at q; cases q
    rw [h2 a z]
    exact e.sub a o q
  · by_cases z : p = P
    · rw [z]
      obtain ⟨qs, k1, k2⟩ := h1
      exact ⟨p1, qs, k1, k2, fun q z => by rw [hq] at z; cases z⟩
    · obtain ⟨g1, qs, g3, g4⟩ := e.tab p hp
      exact ⟨g1, qs, by rw [h2 p z]; exact g3, g4⟩
  · obtain ⟨p, a, b, c, d⟩ := e.own i m q
    exact ⟨p, a, b, c.mono (Sub.refl F) (List.prefix_refl _) (h2 p (ne c)), d⟩
  · obtain ⟨b, c⟩ := e.obj j a m q1 q2
    exact ⟨b, c.mono (Sub.refl F) (List.prefix_refl _) (h2 a (ne c))⟩
  · have z : a ≠ P := fun z => q3 (by rw [z]; exact hP)
    rw [h2 a z]
    exact e.frame a o q1 q2 q3
end
section
variable {T : Tbs} {X : Cx} {G : List Cell} {mu mu1 mu2 mu3 : List Dt} {tg iter elt : Expr} {ds : List Dt} {p pos gpos : Pos} {scope : Scope} {N : List Str} {cap : List (Option Nat)} {vs : List Nat} {b : Bool} {c P : Addr} {k : Nat}
/-- in every context of the body -/
abbrev GxAll (X : Cx) (N : List Str) (scope : Scope) (Φ : Cx → Prop) : Prop := ∀ (s : Shared) (H : Hp) (code : Value) (fp : List Addr), Φ (gxCx X X.A.in1.in1 N s H scope code fp)
/-- the turns: on while the element is k -/
inductive GxTo (T : Tbs) (X : Cx) (N : List Str) (scope : Scope) (vs : List Nat) (k : Bool) (G : List Cell) (tg elt : Expr) : List Dt → List Dt → Bool → List Dt → Prop
  | nil {mu : List Dt} : GxTo T X N scope vs k G tg elt [] mu k mu
  | go {d : Dt} {ds mu mu1 mu2 : List Dt} {G' : List Cell} {ix : List Nat} {b : Bool} : GxAll X N scope (fun Y => PG Y tg (rdG X.K T G mu d G' ix)) → (∀ j ∈ ix, j ∈ vs) → wipeC G' vs = G → GxAll X N scope (fun Y => PE Y elt (rd X.K T G' mu (.dat (.bl k)) mu1)) →
      GxTo T X N scope vs k G tg elt ds mu1 b mu2 → GxTo T X N scope vs k G tg elt (d :: ds) mu b mu2
  | stop {d : Dt} {ds mu mu1 : List Dt} {G' : List Cell} {ix : List Nat} : GxAll X N scope (fun Y => PG Y tg (rdG X.K T G mu d G' ix)) → (∀ j ∈ ix, j ∈ vs) → wipeC G' vs = G → GxAll X N scope (fun Y => PE Y elt (rd X.K T G' mu (.dat (.bl (!k))) mu1)) →
      GxTo T X N scope vs k G tg elt (d :: ds) mu (!k) mu1
def gG (X : Cx) (N : List Str) (scope : Scope) (tg : Expr) : TG := fun v sg H Q => ∃ t, GxAll X N scope (fun Y => PG Y tg t) ∧ t v sg H Q
def eG (X : Cx) (N : List Str) (scope : Scope) (elt : Expr) : TE := fun sg H Q => ∃ t, GxAll X N scope (fun Y => PE Y elt t) ∧ t sg H Q
theorem gG_ok (s : Shared) (H : Hp) (code : Value) (fp : List Addr) : PG (gxCx X X.A.in1.in1 N s H scope code fp) tg (gG X N scope tg) := ⟨fun pins s1 sg H1 v u Q I r ⟨t, ha, hq⟩ => (ha s H code fp).run pins s1 sg H1 v u Q I r hq⟩
theorem eG_ok (s : Shared) (H : Hp) (code : Value) (fp : List Addr) : PE (gxCx X X.A.in1.in1 N s H scope code fp) elt (eG X N scope elt) := ⟨fun pins s1 sg H1 Q I ⟨t, ha, hq⟩ => (ha s H code fp).run pins s1 sg H1 Q I hq⟩
theorem wipe_pick {sg : L2.St} : ∀ {vs : List Nat}, (∀ j ∈ vs, cap[j]? = some none) → wipe (pick sg cap) vs = pick sg cap
  | [], _ => rfl
  | j :: vs, h => by
    have ih := wipe_pick (sg := sg) (vs := vs) fun x hx => h x (List.mem_cons_of_mem _ hx)
    show (wipe (pick sg cap) vs).set j none = _
    rw [ih]
    refine List.ext_getElem? fun i => ?_
    by_cases hi : j = i
    · subst hi
      have h1 := h j List.mem_cons_self
      have h2 : (pick sg cap)[j]? = some none := by
        unfold pick
        rw [List.getElem?_map, h1]
        rfl
      rw [h2, List.getElem?_set_self (List.getElem?_eq_some_iff.mp h2).1]
    · rw [List.getElem?_set_ne hi]
theorem gx_read {k : Bool} (hP' : P ∈ T ∧ T.q P = none) (hj : CapInj cap) (hv : ∀ j ∈ vs, cap[j]? = some none) (ht : GxTo T X N scope vs k (capG G cap) tg elt ds mu1 b mu2) {sg : L2.St} {H : Hp} {Q : VK} (h : rd X.K T G mu (.dat (.bl b)) mu2 sg H Q) :
    tGx P cap k (rdI X.K T G mu ds mu1) (gG X N scope tg) (eG X N scope elt) sg H Q := by
  obtain ⟨B, F, fi, e, q⟩ := h
  refine ⟨B, F, fi, e, fun F1 fi1 H1 J s1 p1 e1 fd => ⟨(e1.tab P hP'.1).2.tab, fun H2 hT => ?_⟩⟩
  have e2 := e1.tabbed hP'.1 hP'.2 hT
  have e3 := e2.capt hj
  refine ⟨fun i m H => m = ds.length - i ∧ i ≤ ds.length ∧ ∃ mu' F' fi', GxTo T X N scope vs k (capG G cap) tg elt (ds.drop i) mu' b mu2 ∧ Sub F1 F' ∧ fi1 <+: fi' ∧ DE X.K T (Bs.now F1 fi1 (pick sg cap) H2 (capG G cap)) F' fi' (pick sg cap) H (capG G cap) mu',
    ⟨_, rfl, Nat.zero_le _, mu1, F1, fi1, ht, Sub.refl F1, List.prefix_refl _, e3⟩, ?_⟩
  rintro i m H4 ⟨rfl, hi2, mu', F4, fi4, hct, s4, p4, e4⟩
  by_cases hlt : i < ds.length
  · have hd : ds[i]? = some ds[i] := List.getElem?_eq_getElem hlt
    rw [List.drop_eq_getElem_cons hlt] at hct
    obtain ⟨g1, g2⟩ := fd.go i ds[i] H4 (s4.trans e4.sub) hd
    refine .inr ⟨g1, fun H' => ∃ mu' F' fi', GxTo T X N scope vs k (capG G cap) tg elt (ds.drop (i + 1)) mu' b mu2 ∧ Sub F1 F' ∧ fi1 <+: fi' ∧ DE X.K T (Bs.now F1 fi1 (pick sg cap) H2 (capG G cap)) F' fi' (pick sg cap) H' (capG G cap) mu', fun H' hH => ⟨ds.length - (i + 1), by omega, rfl, hlt, hH⟩, fun x H5 hy => ?_⟩
    obtain ⟨F5, s5, e5, h5⟩ := ((g2 x H5 hy).mono s4 p4).at e4
    have keep : ∀ {ix : List Nat} {sg6 : L2.St}, (∀ j ∈ ix, j ∈ vs) → But ix (pick sg cap) sg6 → sg6.length = (pick sg cap).length ∧ ∀ (j : Nat) v, (pick sg cap)[j]? = some (some v) → sg6[j]? = some (some v) := fun {ix sg6} hx b6 => ⟨b6.1, fun j v hv6 => by
      by_cases hj : j ∈ ix
      · obtain ⟨j', z1, _⟩ := pick_some hv6
        rw [hv j (hx j hj)] at z1
        cases z1
      · rw [b6.2 j hj]
        exact hv6⟩
    have home : ∀ {F6 : Hp} {fi6 : List Addr} {sg6 : L2.St} {H6 : Hp} {G6 : List Cell} {mu6 : List Dt} {ix : List Nat}, DE X.K T (Bs.now F1 fi1 (pick sg cap) H2 (capG G cap)) F6 fi6 sg6 H6 G6 mu6 → But ix (pick sg cap) sg6 → (∀ j ∈ ix, j ∈ vs) → wipeC G6 vs = capG G cap →
        DE X.K T (Bs.now F1 fi1 (pick sg cap) H2 (capG G cap)) F6 fi6 (pick sg cap) H6 (capG G cap) mu6 := fun {F6 fi6 sg6 H6 G6 mu6 ix} e6 b6 hix hw => by
      have e7 := e6.wipe vs
      rw [wipe_but b6 hix, wipe_pick hv, hw] at e7
      exact e7
    cases hct with
    | go hg hix hw he hrest => exact ⟨_, hg, _, F5, fi4, e5, h5, fun F6 fi6 sg6 H6 s6 p6 e6 b6 => ⟨keep hix b6, _, he, _, F6, fi6, e6, fun v F7 fi7 H7 s7 p7 e7 h7 => by
        cases h7
        exact ⟨k, rfl, fun _ => ⟨_, F7, fi7, hrest, ((s4.trans s5).trans s6).trans s7, (p4.trans p6).trans p7, home e7 b6 hix hw⟩, fun z => absurd rfl z⟩⟩⟩
    | stop hg hix hw he => exact ⟨_, hg, _, F5, fi4, e5, h5, fun F6 fi6 sg6 H6 s6 p6 e6 b6 => ⟨keep hix b6, _, he, _, F6, fi6, e6, fun v F7 fi7 H7 s7 p7 e7 h7 => by
        cases h7
        refine ⟨!k, rfl, fun z => absurd z (by cases k <;> decide), fun _ => ?_⟩
        have s9 := ((s4.trans s5).trans s6).trans s7
        have p9 := (p4.trans p6).trans p7
        exact q _ F7 fi7 H7 (s1.trans s9) (p1.trans p9) (e2.uncapt (home e7 b6 hix hw) s9 p9) (.bl _)⟩⟩
  · have ei : i = ds.length := by omega
    subst ei
    rw [List.drop_length] at hct
    cases hct
    exact .inl ⟨fd.stop H4 (s4.trans e4.sub), q _ F4 fi4 H4 (s1.trans s4) (p1.trans p4) (e2.uncapt e4 s4 p4) (.bl _)⟩
theorem ev_all (vs : List Nat) (hr : Room (k + 1) X.A) (TB : GxR.TabB X.base X.mg c P) (hP : P ∈ T ∧ T.q P = none) (hcode : X.env.code = .ref c) (S : GxS X.env.scope scope X.N N cap) (hj : CapInj cap) (hm : X.mg "all" = none) (hi : EvI T X G mu tg iter ds mu1)
    (hv : ∀ j ∈ vs, cap[j]? = some none) (ht : GxTo T X N scope vs true (capG G cap) tg elt ds mu1 b mu2) (hgl : Gl X "all" := by rfl) (hb : bootBuiltins "all" = some (.builtin "all") := by rfl) (hs : ∀ v, genFold iter X.env v = pure v := by intro _; rfl)
    (he : starEach [.GeneratorExp elt [⟨tg, iter, [], 0⟩] scope gpos] X.env = (false, eval (.GeneratorExp elt [⟨tg, iter, [], 0⟩] scope gpos) X.env) :: starEach [] X.env := by rfl) :
    EvD T X G mu (.Call (.Name "all" p) [.GeneratorExp elt [⟨tg, iter, [], 0⟩] scope gpos] [] pos) (.dat (.bl b)) mu2 :=
  pe_imp (pe_allG hr hgl hm hb TB hcode S hi gG_ok eG_ok hs he) fun sg H Q h => gx_read hP hj hv ht h
theorem ev_any (vs : List Nat) (hr : Room (k + 1) X.A) (TB : GxR.TabB X.base X.mg c P) (hP : P ∈ T ∧ T.q P = none) (hcode : X.env.code = .ref c) (S : GxS X.env.scope scope X.N N cap) (hj : CapInj cap) (hm : X.mg "any" = none) (hi : EvI T X G mu tg iter ds mu1)
    (hv : ∀ j ∈ vs, cap[j]? = some none) (ht : GxTo T X N scope vs false (capG G cap) tg elt ds mu1 b mu2) (hgl : Gl X "any" := by rfl) (hb : bootBuiltins "any" = some (.builtin "any") := by rfl) (hs : ∀ v, genFold iter X.env v = pure v := by intro _; rfl)
    (he : starEach [.GeneratorExp elt [⟨tg, iter, [], 0⟩] scope gpos] X.env = (false, eval (.GeneratorExp elt [⟨tg, iter, [], 0⟩] scope gpos) X.env) :: starEach [] X.env := by rfl) :
    EvD T X G mu (.Call (.Name "any" p) [.GeneratorExp elt [⟨tg, iter, [], 0⟩] scope gpos] [] pos) (.dat (.bl b)) mu2 :=
  pe_imp (pe_anyG hr hgl hm hb TB hcode S hi gG_ok eG_ok hs he) fun sg H Q h => gx_read hP hj hv ht h
end
end Dl

set_option Elab.async false
set_option linter.all false
set_option maxRecDepth 100000
set_option maxHeartbeats 4000000
/-! DlSet: set(xs) of a list of ints, as a set that sorted takes. -/
namespace Dl
open PySem PySem.Spec PyProof.Rows L2
section
variable {P : Program} {w : World} {A : Around} {E : Value → Shared → Prop} {s : Shared}
def memB (ns : List Int) (i : Nat) : Int → Bool := fun k => (ns.take i).any (· == k)
theorem memB_succ {ns : List Int} {i : Nat} {x : Int} (h : ns[i]? = some x) (k : Int) : memB ns (i + 1) k = (memB ns i k || decide (k = x)) := by
  unfold memB
  rw [List.take_succ, h, Option.toList_some, List.any_append]
  congr 1
  rw [List.any_cons, List.any_nil, Bool.or_false]
  rw [Bool.eq_iff_iff, beq_iff_eq, decide_eq_true_eq]
  exact ⟨fun e => e.symm, fun e => e.symm⟩
theorem setR_keep {h h' : Heap} {a : Addr} {S S' : Int → Bool} {n : Nat} (R : SetR w h a S n) (k : ∀ o, h.get? a = some o → h'.get? a = some o) (e : ∀ x, S x = S' x) : SetR w h' a S' n := by
  have : S = S' := funext e
  subst this
  exact R.at k
/-- set.update's loop over ints -/
theorem set_update_ints {I : Addr} {fp wr : List Addr} {G : Array GenState → Array GenState → Prop} {n : Nat} {Pv : Nat → Value → Prop} {St : Nat → Shared → Prop} {R : Result → Shared → Prop}
    (W : WalksS P w A.in1 I fp wr G n Pv St) (S : Addr) (hSf : S ∉ fp) (ns : List Int) (hn : n = ns.length) (hval : ∀ i v, Pv i v → ∃ x t, ns[i]? = some x ∧ v = .int x t) (hb : n + 1 < scanBound) :
    ∀ (k i : Nat) (s : Shared), n - i = k → i ≤ n → St i s → (∃ c, c ≤ i ∧ SetR w s.heap S (memB ns i) c) →
      (∀ s', Moved (S :: wr) G s s' → (∃ c, c ≤ n ∧ SetR w s'.heap S (memB ns n) c) → R (.ok (.ret .none)) s') →
      codeAny (model P w) A (.builtin "set.update.loop" ⟨[.ref S, .ref I], []⟩) R s := by
  have hSw : S ∉ wr := fun h => hSf (W.sub _ h)
  have hsub : ∀ b ∈ wr, b ∈ S :: wr := fun b hb => List.mem_cons_of_mem _ hb
  intro k
  induction k with
  | zero =>
    intro i s hk hi hst ⟨c, hc, hS⟩ hR
    have hin : i = n := by omega
    subst hin
    refine codeAny_builtin F.entry_set_update_loop ?_
    rw [Around.under_plainId F.plain_set_update_loop _]
    show wpAny _ A.in1 (pyNext (.ref I) >>= _) _ _ s
    refine wpAny_bind (W.done s _ _ hst fun s' hm => ?_)
    show wpAny _ A.in1 (ret Value.none) _ _ s'
    exact wpAny_pure (hR s' (hm.mono hsub) ⟨c, hc, hS.at fun o e => hm.heap S o hSw e⟩)
  | succ k ih =>
    intro i s hk hi hst ⟨c, hc, hS⟩ hR
    have hlt : i < n := by omega
    refine codeAny_builtin F.entry_set_update_loop ?_
    rw [Around.under_plainId F.plain_set_update_loop _]
    show wpAny _ A.in1 (pyNext (.ref I) >>= _) _ _ s
    refine wpAny_bind (W.item i s _ _ hlt hst fun v s' hP hst' hm => ?_)
    obtain ⟨x, t, hx, rfl⟩ := hval i v hP
    have hS' : SetR w s'.heap S (memB ns i) c := hS.at fun o e => hm.heap S o hSw e
    show wpAny _ A.in1 (holding [Value.int x t] (setAdd S (.int x t)) >>= _) _ _ s'
    refine wpAny_bind (wpAny_holding ?_)
    unfold setAdd
    refine wpAny_holding ?_
    refine wpAny_bind ((intKind P w).pyHash (k := x) (intKind_is P w x t) ?_)
    refine setR_add_hashed (s := { s' with toks := s'.toks + 1 }) hS' (by omega) fun h' hsb hS2 => ?_
    have hSi : ∃ c', c' ≤ i + 1 ∧ SetR w h' S (memB ns (i + 1)) c' := by
      refine ⟨_, ?_, setR_keep hS2 (fun o e => e) fun y => (memB_succ hx y).symm⟩
      split <;> omega
    refine wpAny_pure ⟨plainId_quiet F.plain_set_update_loop _, ih (i + 1) _ (by omega) hlt (W.frame _ s' _ _ hst' (Nat.le_succ _) fun b hb o e => ?_) hSi fun s'' hm'' hS'' => ?_⟩
    · rw [hsb.2 b (fun h : b = S => hSf (by rw [← h]; exact hb))]; exact e
    · refine hR s'' (Moved.trans W.gtrans ((hm.mono hsub).then_heap (Nat.le_succ _) fun b o hb e => ?_) hm'') hS''
      rw [hsb.2 b (fun h : b = S => hb (by rw [h]; exact List.mem_cons_self))]; exact e
set_option maxHeartbeats 3200000 in
/-- set(xs) -/
theorem call_set_ints {l : Addr} {items : Array Value} (ns : List Int) {Q : Value → Shared → Prop} (hh : A.handled = none) (hl : s.heap.IsList l items) (hi : PyProof.Rows.IntsAre items.toList ns) (hb : ns.length + 1 < scanBound)
    (h : ∀ (h' : Heap) (tk c : Nat), c ≤ ns.length → SetR w h' s.heap.objs.size (memB ns ns.length) c → (∀ b o, s.heap.get? b = some o → h'.get? b = some o) → Q (.ref s.heap.objs.size) { s with heap := h', toks := tk }) :
    wpAny (model P w) A (call (.type "set") [.ref l]) Q E s := by
  have hisz : items.size = ns.length := by
    have q := PyProof.Rows.IntsAre.length hi
    rw [Array.length_toList] at q
    exact q
  obtain ⟨c, tl, hmro⟩ := F.called_set.mro
  have hmade := F.called_set.made
  have hsub := F.called_set.sub
  refine wpAny_call (codeAny_of_tree ?_)
  show wpAny _ _ (callAny (.type "set") _) _ _ _
  refine wpAny_pure ⟨Code.quiet_builtin _ (by decide +kernel), codeAny_builtin F.entry_type_call ?_⟩
  rw [Around.under_plain (weight_type_call_type "set" [.ref l] []) rfl]
  have h1 := F.called_set.notType
  have h2 := F.called_set.canCreate
  have hct := F.typeCall_set_1 (.ref l)
  repeat (any_goals (first | assumption | wp_step))
  refine codeAny_mono (code_set_led1 (.ref l) (E := E) (Q₁ := fun obj s₁ => obj = .ref s.heap.objs.size ∧ s₁ = { s with heap := s.heap.push { cls := .type "set", dict := none, data := .set #[] 0 (.fresh 0 0 (!w.params.followText "set-order")) } }) ⟨rfl, rfl⟩) fun r s₁ hr => ?_
  cases r with
  | error e => exact hr
  | ok fl =>
    cases fl with
    | ret obj =>
      obtain ⟨rfl, rfl⟩ := hr
      have hS : (s.heap.push { cls := .type "set", dict := none, data := .set #[] 0 (.fresh 0 0 (!w.params.followText "set-order")) }).get? s.heap.objs.size = some { cls := .type "set", dict := none, data := .set #[] 0 (.fresh 0 0 (!w.params.followText "set-order")) } := Heap.get?_push_size _ rfl
      have hT : Shared.TypeIs { s with heap := s.heap.push { cls := .type "set", dict := none, data := .set #[] 0 (.fresh 0 0 (!w.params.followText "set-order")) } } (.ref s.heap.objs.size) "set" := ⟨_, hS, rfl⟩
      have hli := F.called_set.init.lookup
      have hbi := F.called_set.init.bind (.ref s.heap.objs.size)
      repeat (any_goals (first | assumption | wp_step))
      refine codeAny_mono (codeAny_call_builtin (R := wants (fun r s₂ => r = .none ∧ ∃ h' tk c, s₂ = { s with heap := h', toks := tk } ∧ c ≤ ns.length ∧ SetR w h' s.heap.objs.size (memB ns ns.length) c ∧ (∀ b o, s.heap.get? b = some o → h'.get? b = some o)) E)
        F.called_set.init.plain F.entry_set_init (check_set_init_1 hT ?_)) fun r₂ s₂ hr₂ => ?_
      · obtain ⟨ol, hol, hcl, nl, hdl⟩ := hl
        obtain ⟨ocls, odict, odata, oslots⟩ := ol
        simp only at hcl hdl
        subst hcl; subst hdl
        have hol' : (s.heap.push { cls := .type "set", dict := none, data := .set #[] 0 (.fresh 0 0 (!w.params.followText "set-order")) }).get? l = some { cls := .type "list", dict := odict, data := .seq items nl, slots := oslots } := Heap.get?_push_of_some _ hol
        have hsls := F.sub_list_set
        have hslf := F.sub_list_frozenset
        have hne : (Value.type "list" == Value.type "dict") = false := by decide
        have hl1 : (s.heap.push { cls := .type "set", dict := none, data := .set #[] 0 (.fresh 0 0 (!w.params.followText "set-order")) }).IsList l items := ⟨_, hol', rfl, nl, rfl⟩
        unfold Builtin.«set.__init__» noKeywords Builtin.Frozenset.updateFrom
        generalize hPI : pyIter = PI
        wp_walk
        subst hPI
        refine wpAny_pyIter_list hl1 ?_
        refine wpAny_bind (wpAny_runValue ?_)
        have hlS : l < s.heap.objs.size := Heap.lt_size hol
        have hh3 : A.in1.in1.in1.handled = none := by simp [hh]
        have hneI : l ≠ (s.heap.push { cls := .type "set", dict := none, data := .set #[] 0 (.fresh 0 0 (!w.params.followText "set-order")) }).objs.size := by
          rw [Heap.size_push]; exact Nat.ne_of_lt (Nat.lt_succ_of_lt hlS)
        have hSf : s.heap.objs.size ∉ [(s.heap.push { cls := .type "set", dict := none, data := .set #[] 0 (.fresh 0 0 (!w.params.followText "set-order")) }).objs.size, l] := by
          rw [Heap.size_push]; simp only [List.mem_cons, List.mem_singleton, List.not_mem_nil, or_false, not_or]
          exact ⟨Nat.ne_of_lt (Nat.lt_succ_self _), Nat.ne_of_gt hlS⟩
        have hval : ∀ (i : Nat) (v : Value), items[i]? = some v → ∃ x t, ns[i]? = some x ∧ v = .int x t := fun i v hv => by
          obtain ⟨t, e⟩ := PyProof.Rows.IntsAre.int_at hi i v (by rw [Array.getElem?_toList]; exact hv)
          have hil : i < ns.length := by rw [← hisz]; exact (Array.getElem?_eq_some_iff.mp hv).1
          refine ⟨ns.getD i 0, t, ?_, e⟩
          rw [List.getD_eq_getElem?_getD, List.getElem?_eq_getElem hil] <;> rfl
        refine set_update_ints ((Walks.list hh3 _ l hneI items).toS) s.heap.objs.size hSf ns hisz hval (by rw [hisz]; exact hb) (items.size - 0) 0 _ (by omega) (Nat.zero_le _)
          ⟨⟨_, Heap.get?_push_size _ rfl, rfl, rfl⟩, (hl1.push _)⟩ ?hS0 ?hR
        case hS0 =>
          refine ⟨0, Nat.le_refl _, ?_⟩
          have q : SetR w (s.heap.push { cls := .type "set", dict := none, data := .set #[] 0 (.fresh 0 0 (!w.params.followText "set-order")) }) s.heap.objs.size (fun _ => false) 0 := setR_fresh w
          exact setR_keep q (fun o e => Heap.get?_push_of_some _ e) fun x => by
            unfold memB
            rw [List.take_zero, List.any_nil]
        case hR =>
          intro s' hm ⟨c, hc, hS'⟩
          obtain ⟨h', g2, d', tk', os'⟩ := s'
          have eg : g2 = s.gens := hm.gens
          have ed : d' = s.drawn := hm.drawn
          have eo : os' = s.os := hm.os
          subst eg; subst ed; subst eo
          show wpAny _ _ _ _ _ _
          refine wpAny_pure ?_
          show wpAny _ _ (ret Value.none) _ _ _
          rw [hisz] at hc hS'
          refine wpAny_pure ⟨rfl, h', tk', c, rfl, hc, hS', fun b o e => ?_⟩
          have hbl := Heap.lt_size e
          have hb1 : b ≠ s.heap.objs.size := Nat.ne_of_lt hbl
          have hb2 : b ≠ (s.heap.push { cls := .type "set", dict := none, data := .set #[] 0 (.fresh 0 0 (!w.params.followText "set-order")) }).objs.size := by
            rw [Heap.size_push]; exact Nat.ne_of_lt (Nat.lt_succ_of_lt hbl)
          exact hm.heap b o (by simp only [List.mem_cons, List.mem_singleton, List.not_mem_nil, or_false, not_or]; exact ⟨hb1, hb2⟩) (Heap.get?_push_of_some _ (Heap.get?_push_of_some _ e))
      · cases r₂ with
        | error e => exact hr₂
        | ok fl₂ =>
          cases fl₂ with
          | ret r =>
            obtain ⟨rfl, h', tk, c, rfl, hc, hS', hk'⟩ := hr₂
            repeat (any_goals (first | assumption | wp_step))
            exact h _ _ _ hc hS' hk'
          | _ => exact hr₂.elim
    | _ => exact hr.elim
end
end Dl

set_option Elab.async false
set_option linter.all false
set_option maxRecDepth 100000
set_option maxHeartbeats 4000000
/-! DlIter: enumerate of a list, a tuple; zip of two lists, two tuples. -/
namespace Dl
open PySem PySem.Spec PyProof.Rows L2
/-! ### enumerate(t), t a tuple -/
theorem meets_enum1 {v : Value} {o : Obj} {H : Heap → Prop} (B : Begins v o H) :
    Meets (Builtin.«enumerate.__new__» ⟨[.type "enumerate", v], []⟩) (fun _ R s => H s.heap ∧
      R (.ok (.ret (.ref (s.heap.push o).objs.size))) { s with heap := (s.heap.push o).push { cls := .type "enumerate", data := .fields #[.none, .bool false, .ref s.heap.objs.size, rawInt 0, .none, .none] } }) :=
  .of_wp fun prog w A R s h => by
    obtain ⟨hp, g, d, tk, os⟩ := s; obtain ⟨h1, h⟩ := h
    have hsub := sub_enumerate
    have q1 : ∀ {A' : Around} {E : Value → Shared → Prop} {Q : Value → Shared → Prop}, Q (.ref hp.objs.size) ⟨hp.push o, g, d, tk, os⟩ → wpAny (model prog w) A' (pyIter v) Q E ⟨hp, g, d, tk, os⟩ :=
      fun q => B.iter prog w _ _ ⟨hp, g, d, tk, os⟩ _ h1 q
    wp_walk using q1
    refine wpAny_stack_any fun st => wpAny_pure ?_
    split
    · rename_i c _ _ _ _ _
      cases (c == Value.type "enumerate")
      · wp_walk using q1
        exact ⟨_, rfl, h⟩
      · wp_walk using q1
        exact ⟨_, rfl, h⟩
    · wp_walk using q1
      exact ⟨_, rfl, h⟩
theorem call_enum1 {prog : Program} {w : World} {A : Around} {E : Value → Shared → Prop} {s : Shared} {v : Value} {o : Obj} {H : Heap → Prop} {Q : Value → Shared → Prop} (B : Begins v o H) (h1 : H s.heap)
    (h : ∀ h', IsEnum h' (s.heap.objs.size + 1) s.heap.objs.size 0 .none → h'.get? s.heap.objs.size = some o → h'.objs.size = s.heap.objs.size + 2 →
      (∀ b o, s.heap.get? b = some o → h'.get? b = some o) → Q (.ref (s.heap.objs.size + 1)) { s with heap := h' }) :
    wpAny (model prog w) A (call (.type "enumerate") [v]) Q E s := by
  refine callType_new F.called_enumerate (by decide) (F.typeCall_enumerate_1 _) (F.newCall_enumerate_1 _) (fun obj => F.args_object_init_2 obj _) F.entry_enumerate_new (meets_enum1 B) ⟨h1, ?_⟩
  have hz : (s.heap.push o).objs.size = s.heap.objs.size + 1 := Heap.size_push ..
  show _ ∧ _
  rw [hz]
  have he : IsEnum ((s.heap.push o).push { cls := .type "enumerate", data := .fields #[.none, .bool false, .ref s.heap.objs.size, rawInt 0, .none, .none] }) (s.heap.objs.size + 1) s.heap.objs.size 0 .none := by
    have := Heap.get?_push_size (s.heap.push o) (o := { cls := .type "enumerate", data := .fields #[.none, .bool false, .ref s.heap.objs.size, rawInt 0, .none, .none] }) rfl
    rw [hz] at this; exact this
  refine ⟨⟨_, he, rfl⟩, h _ he (Heap.get?_push_of_some _ (Heap.get?_push_size _ B.free)) (by rw [Heap.size_push, hz]) fun b o x => Heap.get?_push_of_some _ (Heap.get?_push_of_some _ x)⟩
def IteT (K : PySem.W.Frag) (a : Addr) : It :=
  ⟨fun i H => ∃ (xs : List V) (x : V), SqT K H a xs ∧ xs[i]? = some x, fun i H v H' => ∃ T x, v = .ref T ∧ H T = none ∧ H' = upd H T (.tup [.int (i : Nat), x]) ∧ ∀ xs, SqT K H a xs → xs[i]? = some x, fun i H => ∃ xs : List V, SqT K H a xs ∧ xs.length ≤ i⟩
theorem turn_enumT {P : Program} {w : World} {K : PySem.W.Frag} {elts : List Expr} {kk : Nat} {tpos : Pos} (a e it : Addr) (hai : a ≠ it) (hae : e ≠ a) :
    Turn P w K (.Tuple elts kk tpos) (IteT K a) [e, it] e (fun i h => (∃ old, IsEnum h e it ((i : Nat) : Int) old) ∧ h.IsTupleIter it a i ∧ e ≠ it) where
  mem := by simp
  obj := fun i h st b hb => by
    obtain ⟨⟨old, he⟩, ⟨o, ho, hc, hd⟩, _⟩ := st
    have e' : b = e ∨ b = it := by simpa using hb
    rcases e' with z | z
    · rw [z]; exact ⟨_, he, fun v q => nomatch q⟩
    · rw [z]; exact ⟨o, ho, fun v q => by rw [hd] at q; cases q⟩
  keep := fun i h h' st k => let ⟨⟨old, he⟩, hi, hne⟩ := st; ⟨⟨old, k e (by simp) _ he⟩, hi.at fun o q => k it (by simp) o q, hne⟩
  item := by
    intro X hP hw hK hc i pins s σ H E I hf st hg
    subst hP hw hK
    obtain ⟨⟨old, he⟩, hit, hne⟩ := st
    obtain ⟨xs, x, hq, hx⟩ := hg
    obtain ⟨its, rv, p, hz⟩ := I.tuple hq
    obtain ⟨u, hu, ru⟩ := rv.get hx
    have hlt : i < its.toArray.size := by
      rw [List.size_toArray]
      exact (List.getElem?_eq_some_iff.mp hu).1
    have hel : e < s.heap.objs.size := Heap.lt_size he
    have hil : it < s.heap.objs.size := by obtain ⟨_, q, _⟩ := hit; exact Heap.lt_size q
    refine wpAny_pyNext_enum_itemD (Draws.tuple (A := X.A.in1) (I.ok.hd hc) it a hai its.toArray) he ⟨hit, (show s.heap.IsTuple a its.toArray from p)⟩ hlt hne (by simp only [List.mem_cons, List.mem_singleton, List.not_mem_nil, or_false, not_or]; exact ⟨hne, hae⟩) fun u' h' tk hu' ho hst hT hsz hk => ?_
    have eu : u' = u := by
      have q : its[i]? = some u' := by simpa using hu'
      rw [hu] at q
      exact (Option.some.inj q).symm
    subst eu
    refine ⟨_, rfl, wpAny_letOwnedTupleGo_enum (s := { s with heap := h', toks := tk + 1 }) ho fun h'' he' sb => ?_⟩
    have hT2 : h''.get? s.heap.objs.size = some { cls := .type "tuple", data := .seq #[.int i tk, u'] } := (sb.2 _ (Nat.ne_of_gt hel)).trans hT
    have new : ObjOk X.prog X.w (upd H s.heap.objs.size (.tup [.int (i : Nat), x])) h'' s.heap.objs.size (.tup [.int (i : Nat), x]) :=
      ⟨by show 2 ≤ sizeLine; decide, [.int i tk, u'], .cons ⟨_, rfl⟩ (.cons ru .nil), ⟨_, hT2, rfl, _, rfl⟩⟩
    have I1 : Inv X pins σ (upd H s.heap.objs.size (.tup [.int (i : Nat), x])) { s with heap := h'', toks := tk + 1 } :=
      I.turnedNew (ch := [e, it]) (fun b ob hb q => (sb.2 b (fun z => hb (by simp [z]))).trans (hk b ob (fun z => hb (by simp [z])) (fun z => hb (by simp [z])) q)) hf (Nat.le_refl _) new
    refine ⟨.ref s.heap.objs.size, _, I1, rfl, ⟨_, x, rfl, I.hok.fresh (Nat.le_refl _), rfl, fun ys hy => by rw [I.tuple_inj hy hq]; exact hx⟩, ⟨⟨u', ?_⟩, hst.1.at fun o q => (sb.2 it (Ne.symm hne)).trans q, hne⟩, fun b hb => ?_⟩
    · have e1 : ((i + 1 : Nat) : Int) = (i : Int) + 1 := by omega
      rw [e1]; exact he'
    · have hb' : b < s.heap.objs.size := by
        have e' : b = e ∨ b = it := by simpa using hb
        rcases e' with z | z
        · rw [z]; exact hel
        · rw [z]; exact hil
      rw [upd_ne (Nat.ne_of_lt hb')]
      exact (hf b hb).1
  done := by
    intro X hP hw hK hc i pins s σ H E I hf st hg
    subst hP hw hK
    obtain ⟨⟨old, he⟩, hit, hne⟩ := st
    obtain ⟨xs, hq, hx⟩ := hg
    obtain ⟨its, rv, p, hz⟩ := I.tuple hq
    obtain ⟨f0, f1, f2, f3, f4, f5⟩ := hf it (by simp)
    have hl := rv.length
    have hnone : its.toArray[i]? = none := by simp; omega
    -- a tuple's iterator that is past the end
    unfold pyNext
    have hT : s.TypeIs (.ref e) "enumerate" := ⟨_, he, rfl⟩
    refine wpAny_bind (wpAny_attempt (wpAny_callSpecial?_slot (name := Str.ofString "__next__") hT F.slot_enumerate_next
      (wpAny_call_entry F.slot_enumerate_next hT F.entry_enumerate_next ?_ (F.args_enumerate_next_1 _))))
    show wpAny _ _ (field (.ref e) 2 >>= _) _ _ _
    refine wpAny_bind (wpAny_field he rfl (x := .ref it) rfl ?_)
    refine wpAny_bind (wpAny_nextOf_tuple_end (I.ok.hd hc) hit (show s.heap.IsTuple a its.toArray from p) hnone fun h' x he' hx' => ?_)
    obtain ⟨o, ho, hcc⟩ := hx'
    refine wpAny_bind (wpAny_isInstance (T := "StopIteration") (b := true) ⟨o, ho, hcc⟩ isSubtype_stop ?_)
    exact wpAny_pure ⟨rfl, I.turned (t' := s.toks) (fun b o hb q => he' b o hb q) f0 f1 f3 f4 f5⟩
  self := fun A i s Q E st h => let ⟨⟨_, he⟩, _⟩ := st; wpAny_pyIter_enum he h
def iEnumT (K : PySem.W.Frag) (ta : TA) : TI := fun σ H R => ta σ H fun vs H1 => ∃ a xs, vs = [.ref a] ∧ SqT K H1 a xs ∧ R (IteT K a) H1
theorem pi_enumT {X : Cx} {e : Expr} {ta : TA} {p pos tpos : Pos} {elts : List Expr} {kk : Nat} (hg : Gl X "enumerate") (hm : X.mg "enumerate" = none) (ha : PA X [e] ta) (hs : starEach [e] X.env = [(false, eval e X.env)] := by rfl) :
    PI X (.Tuple elts kk tpos) (.Call (.Name "enumerate" p) [e] [] pos) (iEnumT X.K ta) := by
  refine ⟨fun pins s σ H R I h => ?_⟩
  refine Call_ (ld_blt I hg hm boot_enumerate (PyProof.Rows.callWith_type1 (thn (ha.run pos pins s σ H _ I h) fun us s1 ⟨vs, H1, I1, r1, q1⟩ => ?_) hs rfl))
  obtain ⟨a, xs, ex, hq, q⟩ := q1
  subst ex
  cases r1 with
  | cons r rr =>
    cases rr
    cases r
    obtain ⟨its, rv, p', hz⟩ := I1.tuple hq
    have hlt : a < s1.heap.objs.size := by
      obtain ⟨o, ho, _⟩ := id p'
      exact Heap.lt_size ho
    refine call_enum1 (begins_tuple a its.toArray) (show s1.heap.IsTuple a its.toArray from p') fun h' he hit hsz hk => wpAny_pyIter_enum he ?_
    have I2 : Inv X pins σ H1 { s1 with heap := h' } := I1.kept (t' := s1.toks) hk
    refine ⟨s1.heap.objs.size + 1, [s1.heap.objs.size + 1, s1.heap.objs.size], _, _, H1, rfl, I2, turn_enumT a (s1.heap.objs.size + 1) s1.heap.objs.size (Nat.ne_of_lt hlt) (Nat.ne_of_gt (Nat.lt_succ_of_lt hlt)), ⟨⟨.none, he⟩, ⟨_, hit, rfl, rfl⟩, Nat.succ_ne_self _⟩, fun b hb => ?_, q⟩
    have e' : b = s1.heap.objs.size + 1 ∨ b = s1.heap.objs.size := by simpa using hb
    have hle : s1.heap.objs.size ≤ b := by
      rcases e' with z | z
      · rw [z]; exact Nat.le_add_right _ _
      · rw [z]; exact Nat.le_refl _
    exact I1.fpOk hle (I1.hok.fresh hle)

/-! ### on data -/
/-- (k, d0), (k + 1, d1), .. -/
def enD : Nat → List Dt → List Dt
  | _, [] => []
  | k, d :: ds => .tup [.int (k : Int), d] :: enD (k + 1) ds
theorem enD_get : ∀ {ds : List Dt} {k i : Nat} {d : Dt}, (enD k ds)[i]? = some d → ∃ c, ds[i]? = some c ∧ d = .tup [.int ((k + i : Nat) : Int), c]
  | [], _, _, _, h => by simp [enD] at h
  | c :: ds, k, 0, d, h => by
    have h2 : some (Dt.tup [.int (k : Int), c]) = some d := h
    exact ⟨c, rfl, (Option.some.inj h2).symm⟩
  | c :: ds, k, i + 1, d, h => by
    obtain ⟨c', h1, h2⟩ := enD_get (ds := ds) (k := k + 1) (i := i) (d := d) h
    refine ⟨c', by simpa using h1, ?_⟩
    rw [h2]
    congr 3
    omega
theorem enD_length : ∀ {ds : List Dt} {k : Nat}, (enD k ds).length = ds.length
  | [], _ => rfl
  | c :: ds, k => by
    show (enD (k + 1) ds).length + 1 = ds.length + 1
    rw [enD_length]
/-- (a0, b0), (a1, b1), .. -/
def zpD : List Dt → List Dt → List Dt
  | a :: as_, b :: bs => .tup [a, b] :: zpD as_ bs
  | _, _ => []
theorem zpD_get : ∀ {as_ bs : List Dt} {i : Nat} {d : Dt}, (zpD as_ bs)[i]? = some d → ∃ a b, as_[i]? = some a ∧ bs[i]? = some b ∧ d = .tup [a, b]
  | [], _, _, _, h => by simp [zpD] at h
  | _ :: _, [], _, _, h => by simp [zpD] at h
  | a :: as_, b :: bs, 0, d, h => by
    have h2 : some (Dt.tup [a, b]) = some d := h
    exact ⟨a, b, rfl, rfl, (Option.some.inj h2).symm⟩
  | a :: as_, b :: bs, i + 1, d, h => by
    obtain ⟨x, y, h1, h2, h3⟩ := zpD_get (as_ := as_) (bs := bs) (i := i) (d := d) h
    exact ⟨x, y, by simpa using h1, by simpa using h2, h3⟩
theorem zpD_length : ∀ {as_ bs : List Dt}, as_.length ≤ (zpD as_ bs).length ∨ bs.length ≤ (zpD as_ bs).length
  | [], _ => .inl (Nat.zero_le _)
  | _ :: _, [] => .inr (Nat.zero_le _)
  | a :: as_, b :: bs => by
    show as_.length + 1 ≤ (zpD as_ bs).length + 1 ∨ bs.length + 1 ≤ (zpD as_ bs).length + 1
    rcases zpD_length (as_ := as_) (bs := bs) with h | h
    · exact .inl (by omega)
    · exact .inr (by omega)
section
variable {K : PySem.W.Frag} {F : Hp} {fi : List Addr} {vs ws : List V} {ds es : List Dt} {a b : Addr}
theorem Feeds.enT (h : F a = some (.tup vs)) (r : RpL K F fi vs ds) : Feeds K (IteT K a) F fi (enD 0 ds) where
  go := fun i d H s hi => by
    obtain ⟨c, h1, rfl⟩ := enD_get hi
    obtain ⟨v, h2, h3⟩ := r.getD h1
    refine ⟨⟨vs, v, SqT.of (s _ _ h), h2⟩, fun x H' ⟨T, y, e1, e2, e3, e4⟩ => ?_⟩
    have e := e4 vs (SqT.of (s _ _ h))
    rw [h2] at e
    cases e
    refine .inr ⟨T, _, _, e1, e2, e3, .cons ?_ (.cons h3 .nil), rfl⟩
    rw [Nat.zero_add]
    exact .int _
  stop := fun H s => ⟨vs, SqT.of (s _ _ h), by rw [enD_length, r.length]; exact Nat.le_refl _⟩
theorem Feeds.enL (h : F a = some (.lst vs)) (r : RpL K F fi vs ds) : Feeds K (Ite K a) F fi (enD 0 ds) where
  go := fun i d H s hi => by
    obtain ⟨c, h1, rfl⟩ := enD_get hi
    obtain ⟨v, h2, h3⟩ := r.getD h1
    refine ⟨⟨vs, v, SqL.of (s _ _ h), h2⟩, fun x H' ⟨T, y, e1, e2, e3, e4⟩ => ?_⟩
    have e := e4 vs (SqL.of (s _ _ h))
    rw [h2] at e
    cases e
    refine .inr ⟨T, _, _, e1, e2, e3, .cons ?_ (.cons h3 .nil), rfl⟩
    rw [Nat.zero_add]
    exact .int _
  stop := fun H s => ⟨vs, SqL.of (s _ _ h), by rw [enD_length, r.length]; exact Nat.le_refl _⟩
theorem Feeds.zpT (h : F a = some (.tup vs)) (r : RpL K F fi vs ds) (h' : F b = some (.tup ws)) (r' : RpL K F fi ws es) : Feeds K (RZ.ItzT K a b) F fi (zpD ds es) where
  go := fun i d H s hi => by
    obtain ⟨c, c', h1, h1', rfl⟩ := zpD_get hi
    obtain ⟨v, h2, h3⟩ := r.getD h1
    obtain ⟨v', h2', h3'⟩ := r'.getD h1'
    refine ⟨⟨vs, ws, v, v', SqT.of (s _ _ h), SqT.of (s _ _ h'), h2, h2'⟩, fun x H' ⟨T, y, y', e1, e2, e3, e4, e5⟩ => ?_⟩
    have e := e4 vs (SqT.of (s _ _ h))
    rw [h2] at e
    cases e
    have e' := e5 ws (SqT.of (s _ _ h'))
    rw [h2'] at e'
    cases e'
    exact .inr ⟨T, _, _, e1, e2, e3, .cons h3 (.cons h3' .nil), rfl⟩
  stop := fun H s => ⟨vs, ws, SqT.of (s _ _ h), SqT.of (s _ _ h'), by rw [r.length, r'.length]; exact zpD_length⟩
theorem Feeds.zpL (h : F a = some (.lst vs)) (r : RpL K F fi vs ds) (h' : F b = some (.lst ws)) (r' : RpL K F fi ws es) : Feeds K (Itz K a b) F fi (zpD ds es) where
  go := fun i d H s hi => by
    obtain ⟨c, c', h1, h1', rfl⟩ := zpD_get hi
    obtain ⟨v, h2, h3⟩ := r.getD h1
    obtain ⟨v', h2', h3'⟩ := r'.getD h1'
    refine ⟨⟨vs, ws, v, v', SqL.of (s _ _ h), SqL.of (s _ _ h'), h2, h2'⟩, fun x H' ⟨T, y, y', e1, e2, e3, e4, e5⟩ => ?_⟩
    have e := e4 vs (SqL.of (s _ _ h))
    rw [h2] at e
    cases e
    have e' := e5 ws (SqL.of (s _ _ h'))
    rw [h2'] at e'
    cases e'
    exact .inr ⟨T, _, _, e1, e2, e3, .cons h3 (.cons h3' .nil), rfl⟩
  stop := fun H s => ⟨vs, ws, SqL.of (s _ _ h), SqL.of (s _ _ h'), by rw [r.length, r'.length]; exact zpD_length⟩
end
section
variable {T : Tbs} {X : Cx} {G : List Cell} {mu mu1 mu2 : List Dt} {r r1 r2 : Res} {e e2 : Expr} {pos p tpos : Pos} {elts : List Expr} {kk : Nat} {ds es : List Dt}
theorem ei_enumT (h : EvD T X G mu e (.dat (.tup ds)) mu1) (hm : X.mg "enumerate" = none) (hg : Gl X "enumerate" := by rfl) (hs : starEach [e] X.env = [(false, eval e X.env)] := by rfl) : EvI T X G mu (.Tuple elts kk tpos) (.Call (.Name "enumerate" p) [e] [] pos) (enD 0 ds) mu1 := by
  refine pi_imp (pi_enumT hg hm (ea_cons h ea_nil (by rw [hs]; rfl)) hs) fun sg H R ⟨B, F, fi, e, q⟩ => ⟨B, F, fi, e, fun vs F1 fi1 H1 s1 p1 e1 m1 => ?_⟩
  cases m1 with
  | cons m1 m2 =>
    cases m2
    cases m1 with
    | tup g m => exact ⟨_, _, rfl, SqT.of (e1.sub _ _ g), q F1 fi1 H1 _ s1 p1 e1 (.enT g m)⟩
theorem ei_enumL (h : EvD T X G mu e (.dat (.lst ds)) mu1) (hm : X.mg "enumerate" = none) (hg : Gl X "enumerate" := by rfl) (hs : starEach [e] X.env = [(false, eval e X.env)] := by rfl) : EvI T X G mu (.Tuple elts kk tpos) (.Call (.Name "enumerate" p) [e] [] pos) (enD 0 ds) mu1 := by
  refine pi_imp (pi_enum hg hm (ea_cons h ea_nil (by rw [hs]; rfl)) hs) fun sg H R ⟨B, F, fi, e, q⟩ => ⟨B, F, fi, e, fun vs F1 fi1 H1 s1 p1 e1 m1 => ?_⟩
  cases m1 with
  | cons m1 m2 =>
    cases m2
    cases m1 with
    | lst g m => exact ⟨_, _, rfl, SqL.of (e1.sub _ _ g), q F1 fi1 H1 _ s1 p1 e1 (.enL g m)⟩
theorem ei_zipT (h : EvD T X G mu e (.dat (.tup ds)) mu1) (h2 : EvD T X G mu1 e2 (.dat (.tup es)) mu2) (hm : X.mg "zip" = none) (hg : Gl X "zip" := by rfl) (hs : starEach [e, e2] X.env = (false, eval e X.env) :: starEach [e2] X.env := by rfl)
    (hs2 : starEach [e2] X.env = (false, eval e2 X.env) :: starEach [] X.env := by rfl) (hpl : (backTo pos (starEach [e2] X.env)).any (·.1) = false := by rfl) : EvI T X G mu (.Tuple elts kk tpos) (.Call (.Name "zip" p) [e, e2] [] pos) (zpD ds es) mu2 := by
  refine pi_imp (RZ.pi_zipA hg hm (ea_cons h (ea_cons h2 ea_nil hs2) hs) hs hpl) fun sg H R ⟨B, F, fi, e, q⟩ => ⟨B, F, fi, e, fun vs F1 fi1 H1 s1 p1 e1 m1 => ?_⟩
  cases m1 with
  | cons m1 m2 =>
    cases m2 with
    | cons m2 m3 =>
      cases m3
      cases m1 with
      | tup g m => cases m2 with
        | tup g' m' => exact ⟨_, _, _, _, rfl, .inr ⟨SqT.of (e1.sub _ _ g), SqT.of (e1.sub _ _ g'), q F1 fi1 H1 _ s1 p1 e1 (.zpT g m g' m')⟩⟩
theorem ei_zipL (h : EvD T X G mu e (.dat (.lst ds)) mu1) (h2 : EvD T X G mu1 e2 (.dat (.lst es)) mu2) (hm : X.mg "zip" = none) (hg : Gl X "zip" := by rfl) (hs : starEach [e, e2] X.env = (false, eval e X.env) :: starEach [e2] X.env := by rfl)
    (hs2 : starEach [e2] X.env = (false, eval e2 X.env) :: starEach [] X.env := by rfl) (hpl : (backTo pos (starEach [e2] X.env)).any (·.1) = false := by rfl) : EvI T X G mu (.Tuple elts kk tpos) (.Call (.Name "zip" p) [e, e2] [] pos) (zpD ds es) mu2 := by
  refine pi_imp (RZ.pi_zipA hg hm (ea_cons h (ea_cons h2 ea_nil hs2) hs) hs hpl) fun sg H R ⟨B, F, fi, e, q⟩ => ⟨B, F, fi, e, fun vs F1 fi1 H1 s1 p1 e1 m1 => ?_⟩
  cases m1 with
  | cons m1 m2 =>
    cases m2 with
    | cons m2 m3 =>
      cases m3
      cases m1 with
      | lst g m => cases m2 with
        | lst g' m' => exact ⟨_, _, _, _, rfl, .inl ⟨SqL.of (e1.sub _ _ g), SqL.of (e1.sub _ _ g'), q F1 fi1 H1 _ s1 p1 e1 (.zpL g m g' m')⟩⟩
end
end Dl

set_option Elab.async false
set_option linter.all false
set_option maxRecDepth 100000
set_option maxHeartbeats 4000000
/-! DlCall: calls of built-ins, on data. -/
namespace Dl
open PySem PySem.Spec PyProof.Rows L2
section
variable {T : Tbs} {X : Cx} {G : List Cell} {mu mu1 mu2 : List Dt} {r r1 r2 res : Res} {rs : List Res} {e e1 e2 : Expr} {es : List Expr} {pos p p2 q1 q2 : Pos} {d : Dt} {ds : List Dt}
/-- what a call by values must do -/
def CallD (K : PySem.W.Frag) (T : Tbs) (G : List Cell) (mu : List Dt) (rs : List Res) (r : Res) (rr : List V → Hp → VK → Prop) : Prop :=
  ∀ B F fi sg H vs Q, DE K T B F fi sg H G mu → RpRs K B F fi sg H G vs rs → (∀ w F' fi' H', Sub F F' → fi <+: fi' → DE K T B F' fi' sg H' G mu → RpR K B F' fi' sg H' G w r → Q w H') → rr vs H Q
theorem cb_read {rr : List V → Hp → VK → Prop} {t : TA} (k : CallD X.K T G mu1 rs res rr) {sg : L2.St} {H : Hp} {Q : VK} (h : rd X.K T G mu res mu1 sg H Q) : tCB rr (rdA X.K T G mu rs mu1) sg H Q := by
  obtain ⟨B, F, fi, e, q⟩ := h
  refine ⟨B, F, fi, e, fun vs F1 fi1 H1 s1 p1 e1 m1 => ?_⟩
  exact k B F1 fi1 sg H1 vs Q e1 m1 fun w F' fi' H' s p e' m => q w F' fi' H' (s1.trans s) (p1.trans p) e' m
theorem ev_B {x : Str} {id : String} {rr : List V → Hp → VK → Prop} (hc : CallR X (.builtin id) rr) (k : CallD X.K T G mu1 rs res rr) (ha : EvA T X G mu (e :: es) rs mu1) (hm : X.mg x = none) (hv : bootBuiltins x = some (.builtin id)) (hg : Gl X x := by rfl) (hn : x ≠ "__name__" := by decide) (hdb : (x == ("__debug__" : Str)) = false := by decide)
    (he : starEach (e :: es) X.env = (false, eval e X.env) :: starEach es X.env := by rfl) (hpl : (backTo pos (starEach es X.env)).any (·.1) = false := by rfl) : EvD T X G mu (.Call (.Name x p) (e :: es) [] pos) res mu1 :=
  pe_imp (pe_callB hc hg hm hv ha hn hdb he hpl) fun sg H Q h => cb_read (t := tNil) k h
theorem ev_Ty {x : Str} {id : String} {rr : List V → Hp → VK → Prop} (hc : CallR X (.type id) rr) (k : CallD X.K T G mu1 rs res rr) (ha : EvA T X G mu (e :: es) rs mu1) (hm : X.mg x = none) (hv : bootBuiltins x = some (.type id)) (hg : Gl X x := by rfl) (hn : x ≠ "__name__" := by decide) (hdb : (x == ("__debug__" : Str)) = false := by decide)
    (he : starEach (e :: es) X.env = (false, eval e X.env) :: starEach es X.env := by rfl) (hpl : (backTo pos (starEach es X.env)).any (·.1) = false := by rfl) : EvD T X G mu (.Call (.Name x p) (e :: es) [] pos) res mu1 :=
  pe_imp (pe_callTy hc hg hm hv ha hn hdb he hpl) fun sg H Q h => cb_read (t := tNil) k h
/-- one argument, a value out, the heap as it was -/
theorem cd_one {rr : List V → Hp → VK → Prop} {d1 : Dt} (l : look G r = some d1) (h : ∀ F fi H v Q, Sub F H → Vw X.K F fi H v d1 → (∀ w, Rp X.K F fi w d → Q w H) → rr [v] H Q) : CallD X.K T G mu [r] (.dat d) rr :=
  fun B F fi sg H vs Q e m q => by
    cases m with
    | cons m1 m2 =>
      cases m2
      exact h F fi H _ Q e.sub (e.viewH m1 l) fun w hw => q w F fi H (Sub.refl F) (List.prefix_refl _) e hw
theorem cd_two {rr : List V → Hp → VK → Prop} {d1 d2 : Dt} (l1 : look G r1 = some d1) (l2 : look G r2 = some d2) (h : ∀ F fi H v u Q, Sub F H → Vw X.K F fi H v d1 → Vw X.K F fi H u d2 → (∀ w, Rp X.K F fi w d → Q w H) → rr [v, u] H Q) : CallD X.K T G mu [r1, r2] (.dat d) rr :=
  fun B F fi sg H vs Q e m q => by
    cases m with
    | cons m1 m2 =>
      cases m2 with
      | cons m2 m3 =>
        cases m3
        exact h F fi H _ _ Q e.sub (e.viewH m1 l1) (e.viewH m2 l2) fun w hw => q w F fi H (Sub.refl F) (List.prefix_refl _) e hw
/-- one argument, a new list out -/
theorem cd_new {rr : List V → Hp → VK → Prop} {d1 : Dt} (l : look G r = some d1) (h : ∀ F fi H v Q, Sub F H → Vw X.K F fi H v d1 → (∀ p vs, H p = none → RpL X.K F fi vs ds → Q (.ref p) (upd H p (.lst vs))) → rr [v] H Q) : CallD X.K T G mu [r] (.new (.lst ds)) rr :=
  fun B F fi sg H vs Q e m q => by
    cases m with
    | cons m1 m2 =>
      cases m2
      refine h F fi H _ Q e.sub (e.viewH m1 l) fun p vs hp hr => ?_
      obtain ⟨e2, k2⟩ := e.newL hp hr
      exact q _ F fi _ (Sub.refl F) (List.prefix_refl _) e2 k2
/-! ### len -/
theorem ev_len {n : Nat} (h : EvD T X G mu e r mu1) (hm : X.mg "len" = none) (hk : (∃ ds, d = .lst ds ∧ ds.length = n) ∨ ∃ ds, d = .tup ds ∧ ds.length = n) (l : look G r = some d := by rfl) (hg : Gl X "len" := by rfl) (he : starEach [e] X.env = (false, eval e X.env) :: starEach [] X.env := by rfl) :
    EvD T X G mu (.Call (.Name "len" p) [e] [] pos) (.dat (.int n)) mu1 := by
  refine ev_B call_len_seq (cd_one l fun F fi H v Q s hv q => ?_) (ea_cons h ea_nil he) hm boot_len hg (by decide) (by decide) he
  rcases hk with ⟨ds, rfl, hl⟩ | ⟨ds, rfl, hl⟩
  · obtain ⟨a, vs, rfl, f2, m⟩ := hv.lst s
    refine ⟨a, vs, rfl, .inl (SqL.of f2), q _ ?_⟩
    rw [m.length, hl]
    exact .int _
  · obtain ⟨a, vs, rfl, _, f2, m⟩ := hv.tup s
    refine ⟨a, vs, rfl, .inr (SqT.of f2), q _ ?_⟩
    rw [m.length, hl]
    exact .int _
theorem ev_lenT (h : EvD T X G mu e r mu1) (hm : X.mg "len" = none) (l : look G r = some (.tup ds) := by rfl) (hg : Gl X "len" := by rfl) (he : starEach [e] X.env = (false, eval e X.env) :: starEach [] X.env := by rfl) :
    EvD T X G mu (.Call (.Name "len" p) [e] [] pos) (.dat (.int (ds.length : Nat))) mu1 := ev_len h hm (.inr ⟨ds, rfl, rfl⟩) l hg he
theorem ev_lenL (h : EvD T X G mu e r mu1) (hm : X.mg "len" = none) (l : look G r = some (.lst ds) := by rfl) (hg : Gl X "len" := by rfl) (he : starEach [e] X.env = (false, eval e X.env) :: starEach [] X.env := by rfl) :
    EvD T X G mu (.Call (.Name "len" p) [e] [] pos) (.dat (.int (ds.length : Nat))) mu1 := ev_len h hm (.inl ⟨ds, rfl, rfl⟩) l hg he
theorem ev_lenS {z : Str} (h : EvD T X G mu e r mu1) (hm : X.mg "len" = none) (hz : z.length ≤ sizeLine) (l : look G r = some (.str z) := by rfl) (hg : Gl X "len" := by rfl) (he : starEach [e] X.env = (false, eval e X.env) :: starEach [] X.env := by rfl) :
    EvD T X G mu (.Call (.Name "len" p) [e] [] pos) (.dat (.int (z.length : Nat))) mu1 :=
  ev_B call_len_str (cd_one l fun F fi H v Q s hv q => ⟨z, by rw [hv.str], hz, q _ (.int _)⟩) (ea_cons h ea_nil he) hm boot_len hg (by decide) (by decide) he
/-! ### min, max, int, str -/
theorem ev_min2 {i j : Int} (hc : X.calm = true) (h1 : EvD T X G mu e1 r1 mu1) (h2 : EvD T X G mu1 e2 r2 mu2) (hm : X.mg "min" = none) (l1 : look G r1 = some (.int i) := by rfl) (l2 : look G r2 = some (.int j) := by rfl) (hg : Gl X "min" := by rfl)
    (he : starEach [e1, e2] X.env = (false, eval e1 X.env) :: starEach [e2] X.env := by rfl) (he2 : starEach [e2] X.env = (false, eval e2 X.env) :: starEach [] X.env := by rfl) (hpl : (backTo pos (starEach [e2] X.env)).any (·.1) = false := by rfl) :
    EvD T X G mu (.Call (.Name "min" p) [e1, e2] [] pos) (.dat (.int (min i j))) mu2 :=
  ev_B (call_min2 hc) (cd_two l1 l2 fun F fi H v u Q s hv hu q => ⟨i, j, by rw [hv.int, hu.int], by
    have e : (if j < i then j else i) = min i j := by split <;> omega
    rw [e]
    exact q _ (.int _)⟩) (ea_cons h1 (ea_cons h2 ea_nil he2) he) hm boot_min hg (by decide) (by decide) he hpl
theorem ev_max2 {i j : Int} (hc : X.calm = true) (h1 : EvD T X G mu e1 r1 mu1) (h2 : EvD T X G mu1 e2 r2 mu2) (hm : X.mg "max" = none) (l1 : look G r1 = some (.int i) := by rfl) (l2 : look G r2 = some (.int j) := by rfl) (hg : Gl X "max" := by rfl)
    (he : starEach [e1, e2] X.env = (false, eval e1 X.env) :: starEach [e2] X.env := by rfl) (he2 : starEach [e2] X.env = (false, eval e2 X.env) :: starEach [] X.env := by rfl) (hpl : (backTo pos (starEach [e2] X.env)).any (·.1) = false := by rfl) :
    EvD T X G mu (.Call (.Name "max" p) [e1, e2] [] pos) (.dat (.int (max i j))) mu2 :=
  ev_B (call_max2 hc) (cd_two l1 l2 fun F fi H v u Q s hv hu q => ⟨i, j, by rw [hv.int, hu.int], by
    have e : (if j > i then j else i) = max i j := by split <;> omega
    rw [e]
    exact q _ (.int _)⟩) (ea_cons h1 (ea_cons h2 ea_nil he2) he) hm boot_max hg (by decide) (by decide) he hpl
theorem ev_toint {i : Int} (h : EvD T X G mu e r mu1) (hm : X.mg "int" = none) (l : look G r = some (.int i) := by rfl) (hg : Gl X "int" := by rfl) (he : starEach [e] X.env = (false, eval e X.env) :: starEach [] X.env := by rfl) :
    EvD T X G mu (.Call (.Name "int" p) [e] [] pos) (.dat (.int i)) mu1 :=
  ev_Ty call_int1 (cd_one l fun F fi H v Q s hv q => .inl ⟨i, by rw [hv.int], q _ (.int _)⟩) (ea_cons h ea_nil he) hm PyProof.Rows.boot_int hg (by decide) (by decide) he
/-- a number's text -/
def strI (i : Int) : Str := ((toString i : String) : Str)
theorem ev_tostr {i : Int} (h : EvD T X G mu e r mu1) (hm : X.mg "str" = none) (hz : i.natAbs.log2 < 1920) (l : look G r = some (.int i) := by rfl) (hg : Gl X "str" := by rfl) (he : starEach [e] X.env = (false, eval e X.env) :: starEach [] X.env := by rfl) :
    EvD T X G mu (.Call (.Name "str" p) [e] [] pos) (.dat (.str (strI i))) mu1 :=
  ev_Ty call_str_int (cd_one l fun F fi H v Q s hv q => ⟨i, by rw [hv.int], hz, q _ (.str _)⟩) (ea_cons h ea_nil he) hm PyProof.Rows.boot_str hg (by decide) (by decide) he
/-! ### list(x), tuple(x) -/
theorem ev_tolist (h : EvD T X G mu e r mu1) (hm : X.mg "list" = none) (l : look G r = some (.lst ds) ∨ look G r = some (.tup ds)) (hg : Gl X "list" := by rfl) (he : starEach [e] X.env = (false, eval e X.env) :: starEach [] X.env := by rfl) :
    EvD T X G mu (.Call (.Name "list" p) [e] [] pos) (.new (.lst ds)) mu1 := by
  rcases l with l | l
  · refine ev_Ty call_list_of (cd_new l fun F fi H v Q s hv q => ?_) (ea_cons h ea_nil he) hm PyProof.Rows.boot_list hg (by decide) (by decide) he
    obtain ⟨a, vs, rfl, f2, m⟩ := hv.lst s
    exact ⟨a, vs, rfl, .inl (SqL.of f2), fun l hl => q l vs hl m⟩
  · refine ev_Ty call_list_of (cd_new l fun F fi H v Q s hv q => ?_) (ea_cons h ea_nil he) hm PyProof.Rows.boot_list hg (by decide) (by decide) he
    obtain ⟨a, vs, rfl, _, f2, m⟩ := hv.tup s
    exact ⟨a, vs, rfl, .inr (SqT.of f2), fun l hl => q l vs hl m⟩
theorem ev_totup (h : EvD T X G mu e r mu1) (hm : X.mg "tuple" = none) (l : look G r = some (.lst ds) := by rfl) (hg : Gl X "tuple" := by rfl) (he : starEach [e] X.env = (false, eval e X.env) :: starEach [] X.env := by rfl) :
    EvD T X G mu (.Call (.Name "tuple" p) [e] [] pos) (.dat (.tup ds)) mu1 := by
  refine ev_Ty call_tuple_of (fun B F fi sg H vs Q e m q => ?_) (ea_cons h ea_nil he) hm PyProof.Rows.boot_tuple hg (by decide) (by decide) he
  cases m with
  | cons m1 m2 =>
    cases m2
    obtain ⟨a, vs, rfl, f2, m⟩ := (e.viewH m1 l).lst e.sub
    refine ⟨a, vs, rfl, .inl ⟨SqL.of f2, fun l hl => ?_⟩⟩
    obtain ⟨F4, s4, e4, h4⟩ := e.newT hl m
    exact q _ F4 fi _ s4 (List.prefix_refl _) e4 h4
theorem ev_totupT (h : EvD T X G mu e (.dat (.tup ds)) mu1) (hm : X.mg "tuple" = none) (hg : Gl X "tuple" := by rfl) (he : starEach [e] X.env = (false, eval e X.env) :: starEach [] X.env := by rfl) :
    EvD T X G mu (.Call (.Name "tuple" p) [e] [] pos) (.dat (.tup ds)) mu1 := by
  refine ev_Ty call_tuple_of (fun B F fi sg H vs Q e m q => ?_) (ea_cons h ea_nil he) hm PyProof.Rows.boot_tuple hg (by decide) (by decide) he
  cases m with
  | cons m1 m2 =>
    cases m2
    cases m1 with
    | tup g m => exact ⟨_, _, rfl, .inr ⟨SqT.of (e.sub _ _ g), q _ F fi _ (Sub.refl F) (List.prefix_refl _) e (.tup g m)⟩⟩
/-! ### sorted -/
/-- ordered -/
def sortI (ns : List Int) : List Int := ns.mergeSort (fun x y => decide (x ≤ y))
theorem ord_one : ∀ {a b : List Int}, a.Perm b → a.Pairwise (· ≤ ·) → b.Pairwise (· ≤ ·) → a = b
  | [], b, h, _, _ => (List.Perm.nil_eq h)
  | x :: r, [], h, _, _ => absurd h.length_eq (by simp)
  | x :: r, y :: t, h, ha, hb => by
    have hx : x ∈ y :: t := h.subset (List.mem_cons_self ..)
    have hy : y ∈ x :: r := h.symm.subset (List.mem_cons_self ..)
    have h1 : x ≤ y := by
      cases List.mem_cons.mp hy with
      | inl e => omega
      | inr m => exact (List.pairwise_cons.mp ha).1 y m
    have h2 : y ≤ x := by
      cases List.mem_cons.mp hx with
      | inl e => omega
      | inr m => exact (List.pairwise_cons.mp hb).1 x m
    have e : x = y := by omega
    subst e
    rw [ord_one h.cons_inv (List.pairwise_cons.mp ha).2 (List.pairwise_cons.mp hb).2]
theorem sortI_perm (ns : List Int) : (sortI ns).Perm ns := List.mergeSort_perm ns _
theorem sortI_ord (ns : List Int) : (sortI ns).Pairwise (· ≤ ·) := by
  have hs := List.pairwise_mergeSort (le := fun x y : Int => decide (x ≤ y)) (by intro x y z hxy hyz; simp only [decide_eq_true_eq] at *; omega) (by intro x y; simp only [Bool.or_eq_true, decide_eq_true_eq]; omega) ns
  simpa [sortI] using hs
theorem sortI_eq {a ns : List Int} (h : a.Perm ns) (ha : a.Pairwise (· ≤ ·)) : a = sortI ns := ord_one (h.trans (sortI_perm ns).symm) ha (sortI_ord ns)
theorem ev_sorted {ns : List Int} (h : EvD T X G mu e r mu1) (hm : X.mg "sorted" = none) (l : look G r = some (.lst (ns.map Dt.int))) (hg : Gl X "sorted" := by rfl) (he : starEach [e] X.env = (false, eval e X.env) :: starEach [] X.env := by rfl) :
    EvD T X G mu (.Call (.Name "sorted" p) [e] [] pos) (.new (.lst ((sortI ns).map Dt.int))) mu1 := by
  refine ev_B cr_sortedI (cd_new l fun F fi H v Q s hv q => ?_) (ea_cons h ea_nil he) hm PyProof.Rows.boot_sorted hg (by decide) (by decide) he
  obtain ⟨a, vs, rfl, f2, m⟩ := hv.lst s
  rw [m.ints] at f2
  refine ⟨a, ns, rfl, SqL.of f2, fun ns' p h1 h2 hp => ?_⟩
  rw [sortI_eq h1 h2]
  exact q p _ hp (RpL.of_ints _)
/-- put in, unless it is there -/
def insI (x : Int) : List Int → List Int
  | [] => [x]
  | y :: r => if x < y then x :: y :: r else if x = y then y :: r else y :: insI x r
/-- ordered, each once -/
def ssetI (ns : List Int) : List Int := ns.foldr insI []
theorem mem_insI {x k : Int} : ∀ {l : List Int}, k ∈ insI x l ↔ k = x ∨ k ∈ l
  | [] => by simp [insI]
  | y :: r => by
    unfold insI
    split
    · simp
    · split
      · rename_i h
        subst h
        simp
      · rw [List.mem_cons, mem_insI, List.mem_cons]
        constructor
        · rintro (h | h | h)
          · exact .inr (.inl h)
          · exact .inl h
          · exact .inr (.inr h)
        · rintro (h | h | h)
          · exact .inr (.inl h)
          · exact .inl h
          · exact .inr (.inr h)
theorem mem_ssetI {k : Int} : ∀ {ns : List Int}, k ∈ ssetI ns ↔ k ∈ ns
  | [] => by simp [ssetI]
  | n :: ns => by
    show k ∈ insI n (ssetI ns) ↔ _
    rw [mem_insI, mem_ssetI, List.mem_cons]
theorem insI_ord {x : Int} : ∀ {l : List Int}, l.Pairwise (· < ·) → (insI x l).Pairwise (· < ·)
  | [], _ => by simp [insI]
  | y :: r, h => by
    unfold insI
    obtain ⟨h1, h2⟩ := List.pairwise_cons.mp h
    split
    · rename_i hx
      refine List.pairwise_cons.mpr ⟨fun z hz => ?_, h⟩
      rcases List.mem_cons.mp hz with e | e
      · rw [e]; exact hx
      · have := h1 z e; omega
    · split
      · exact h
      · rename_i hx hy
        refine List.pairwise_cons.mpr ⟨fun z hz => ?_, insI_ord h2⟩
        rcases mem_insI.mp hz with e | e
        · rw [e]; omega
        · exact h1 z e
theorem ssetI_ord : ∀ (ns : List Int), (ssetI ns).Pairwise (· < ·)
  | [] => .nil
  | n :: ns => insI_ord (ssetI_ord ns)
theorem lt_ext : ∀ {a b : List Int}, a.Pairwise (· < ·) → b.Pairwise (· < ·) → (∀ k, k ∈ a ↔ k ∈ b) → a = b
  | [], [], _, _, _ => rfl
  | [], y :: t, _, _, h => absurd ((h y).mpr List.mem_cons_self) (by simp)
  | x :: r, [], _, _, h => absurd ((h x).mp List.mem_cons_self) (by simp)
  | x :: r, y :: t, ha, hb, h => by
    obtain ⟨a1, a2⟩ := List.pairwise_cons.mp ha
    obtain ⟨b1, b2⟩ := List.pairwise_cons.mp hb
    have e : x = y := by
      rcases List.mem_cons.mp ((h x).mp List.mem_cons_self) with e | e
      · exact e
      · rcases List.mem_cons.mp ((h y).mpr List.mem_cons_self) with e' | e'
        · exact e'.symm
        · have := b1 x e
          have := a1 y e'
          omega
    subst e
    rw [lt_ext a2 b2 fun k => ?_]
    constructor
    · intro hk
      rcases List.mem_cons.mp ((h k).mp (List.mem_cons_of_mem _ hk)) with e | e
      · have := a1 k hk
        omega
      · exact e
    · intro hk
      rcases List.mem_cons.mp ((h k).mpr (List.mem_cons_of_mem _ hk)) with e | e
      · have := b1 k hk
        omega
      · exact e
/-- sorted(set(e)) -/
def tSortSet (K : PySem.W.Frag) (ta : TE) : TE := fun σ H Q => ta σ H fun x H1 => ∃ (l : Addr) (ns : List Int), x = V.ref l ∧ SqL K H1 l (ns.map V.int) ∧ ns.length < 64 ∧ ∀ p, H1 p = none → Q (.ref p) (upd H1 p (.lst ((ssetI ns).map V.int)))
theorem pe_sortset {a : Expr} {ta : TE} {p p2 q pos : Pos} (hc : X.calm = true) (hg : Gl X "sorted") (hm : X.mg "sorted" = none) (hg2 : Gl X "set") (hm2 : X.mg "set" = none) (ha : PE X a ta)
    (na : starEach [a] X.env = (false, eval a X.env) :: starEach [] X.env := by rfl) : PE X (.Call (.Name "sorted" p) [.Call (.Name "set" p2) [a] [] q] [] pos) (tSortSet X.K ta) := by
  refine ⟨fun pins s σ H Q I h => ?_⟩
  refine Call_ (ld_blt I hg hm PyProof.Rows.boot_sorted ?_)
  refine PyProof.Rows.callWith_builtin1 (PyProof.Rows.args_cons ?_ rfl) rfl rfl
  refine Call_ (ld_blt I hg2 hm2 PyProof.Rows.boot_set ?_)
  refine PyProof.Rows.callWith_type1 (PyProof.Rows.args_cons (thn (ha.run pins s σ H _ I h) fun v s1 ⟨x, H1, I1, r1, q1⟩ => PyProof.Rows.args_nil ?_) na) na rfl
  obtain ⟨l, ns, rfl, hq, h1, q1⟩ := q1
  cases r1
  obtain ⟨its, r, pl, hz⟩ := I1.list hq
  refine call_set_ints ns (I1.ok.hd hc) pl.isList (by simpa using r.ints) (by unfold scanBound; omega) fun h' tk c hcn hS hk => ?_
  refine PyProof.Rows.args_nil ?_
  have I2 : Inv X pins σ H1 { s1 with heap := h', toks := tk } := I1.kept hk
  refine sorted_set hS (I2.ok.hd hc) (by omega) fun s' p out c' ms k g o hp hgl hi hs hmem hl => ?_
  have hlen : (ms.map V.int).length ≤ sizeLine := by rw [List.length_map, hl, sizeLine_eq]; omega
  have hn : H1 p = none := I2.hok.fresh hp
  have J : Inv X pins σ (upd H1 p (.lst (ms.map V.int))) s' := I2.call' (ch := []) o (Un.laid k hp hn) (I2.hok.laid k hp ⟨hlen, out.toList, c', vals_of_ints hi, hgl⟩) (by rw [g]; exact I2.bare) (fun _ z => nomatch z)
  have em : ms = ssetI ns := lt_ext hs (ssetI_ord ns) fun k => by
    rw [hmem k, mem_ssetI]
    unfold memB
    rw [List.take_length, List.any_eq_true]
    constructor
    · rintro ⟨x, hx, e⟩
      rw [← beq_iff_eq.mp e]
      exact hx
    · intro hx
      exact ⟨k, hx, beq_iff_eq.mpr rfl⟩
  rw [em] at J
  exact ⟨.ref p, _, J, rfl, q1 p hn⟩
theorem ev_sortset {ns : List Int} (hc : X.calm = true) (h : EvD T X G mu e r mu1) (hm : X.mg "sorted" = none) (hm2 : X.mg "set" = none) (h64 : ns.length < 64) (l : look G r = some (.lst (ns.map Dt.int))) (hg : Gl X "sorted" := by rfl) (hg2 : Gl X "set" := by rfl) (he : starEach [e] X.env = (false, eval e X.env) :: starEach [] X.env := by rfl) :
    EvD T X G mu (.Call (.Name "sorted" p) [.Call (.Name "set" p2) [e] [] q1] [] pos) (.new (.lst ((ssetI ns).map Dt.int))) mu1 := by
  refine pe_imp (pe_sortset hc hg hm hg2 hm2 h he) fun sg H Q ⟨B, F, fi, e, q⟩ => ⟨B, F, fi, e, fun v F1 fi1 H1 s1 p1 e1 h1 => ?_⟩
  obtain ⟨a, vs, rfl, f2, m⟩ := (e1.view h1 l).lst e1.sub
  rw [m.ints] at f2
  refine ⟨a, ns, rfl, SqL.of f2, h64, fun p hp => ?_⟩
  -- a new list that was given to set is nobody's from here on
  obtain ⟨F2, s2, e2, h2⟩ := e1.hold h1
  obtain ⟨e3, k3⟩ := e2.newL hp (RpL.of_ints (ssetI ns))
  exact q _ F2 fi1 _ (s1.trans s2) p1 e3 k3
/-! ### isinstance -/
def tyN : Dt → Option String
  | .non => some "NoneType"
  | .bl _ => some "bool"
  | .int _ => some "int"
  | .str _ => some "str"
  | .tup _ => some "tuple"
  | .lst _ => some "list"
  | _ => none
theorem Vw.tyx {K : PySem.W.Frag} {F : Hp} {fi : List Addr} {H : Hp} (s : Sub F H) {v : V} {n : String} (h : Vw K F fi H v d) (e : tyN d = some n) : TyX K H v (.type n) := by
  cases d with
  | non => cases e; rw [h.non]; exact .base .non
  | bl b => cases e; rw [h.bl]; exact .base (.bl b)
  | int i => cases e; rw [h.int]; exact .base (.int i)
  | str z => cases e; rw [h.str]; exact .base (.str z)
  | tup ds =>
    cases e
    obtain ⟨a, vs, rfl, _, f2, m⟩ := h.tup s
    exact .base (.tup f2)
  | lst ds =>
    cases e
    obtain ⟨a, vs, rfl, f2, m⟩ := h.lst s
    exact .base (.lst f2)
  | _ => cases e
/-- the name of a built-in type -/
theorem ev_ty {x : Str} {n : String} (hm : X.mg x = none) (hv : bootBuiltins x = some (.type n)) (hg : Gl X x := by rfl) (hn : x ≠ "__name__" := by decide) (hd : (x == ("__debug__" : Str)) = false := by decide) : EvD T X G mu (.Name x pos) (.dat (.obj (.ty n))) mu :=
  pe_imp (pe_bltn (v := .ty n) hg hm hv rfl hn hd) fun sg H Q ⟨B, F, fi, e, q⟩ => q _ F fi H (Sub.refl F) (List.prefix_refl _) e (.obj _)
theorem ev_isi {x : Str} {n m : String} {b : Bool} (h : EvD T X G mu e r mu1) (hm : X.mg "isinstance" = none) (hmx : X.mg x = none) (hv : bootBuiltins x = some (.type m)) (hn : tyN d = some n) (hk : kitB n m = some b) (l : look G r = some d := by rfl) (hg : Gl X "isinstance" := by rfl) (hgx : Gl X x := by rfl) (hnx : x ≠ "__name__" := by decide) (hdx : (x == ("__debug__" : Str)) = false := by decide)
    (he : starEach [e, .Name x p2] X.env = (false, eval e X.env) :: starEach [.Name x p2] X.env := by rfl) (he2 : starEach [.Name x p2] X.env = (false, eval (.Name x p2) X.env) :: starEach [] X.env := by rfl) (hpl : (backTo pos (starEach [.Name x p2] X.env)).any (·.1) = false := by rfl) :
    EvD T X G mu (.Call (.Name "isinstance" p) [e, .Name x p2] [] pos) (.dat (.bl b)) mu1 := by
  refine ev_B call_isi (fun B F fi sg H vs Q e m q => ?_) (ea_cons h (ea_cons (ev_ty hmx hv hgx hnx hdx) ea_nil he2) he) hm PyProof.Rows.boot_isinstance hg (by decide) (by decide) he hpl
  cases m with
  | cons m1 m2 =>
    cases m2 with
    | cons m2 m3 =>
      cases m3
      cases m2
      exact ⟨_, _, _, _, b, rfl, .ty _, (e.viewH m1 l).tyx e.sub hn, kit_ty hk, q _ F fi H (Sub.refl F) (List.prefix_refl _) e (.bl b)⟩
/-! ### sep.join(texts) -/
theorem ev_join {a : Str} {ws : List Str} {o : Expr} {apos : Pos} (ho : EvD T X G mu o r1 mu1) (h : EvD T X G mu1 e r2 mu2) (hz : (ws.map (·.length)).sum + ws.length * a.length ≤ 16777216) (l1 : look G r1 = some (.str a) := by rfl) (l2 : look G r2 = some (.lst (ws.map Dt.str)))
    (hs : starEach [e] X.env = [(false, eval e X.env)] := by rfl) (hbase : attributeBase o "join" X.env (eval o X.env) = eval o X.env := by rfl) (hline : (apos.endLine == pos.line) = true := by rfl) :
    EvD T X G mu (.Call (.Attribute o "join" apos) [e] [] pos) (.dat (.str (Txt.join a ws))) mu2 := by
  refine pe_imp (pe_join ho h hs hbase hline) fun sg H Q ⟨B, F, fi, e, q⟩ => ⟨B, F, fi, e, fun v F1 fi1 H1 s1 p1 e1 h1 => ?_⟩
  have ev := (e1.view h1 l1).str
  obtain ⟨F1', s1', e1', h1'⟩ := e1.hold h1
  refine ⟨⟨a, ev⟩, B, F1', fi1, e1', fun u F2 fi2 H2 s2 p2 e2 h2 => ?_⟩
  obtain ⟨b, vs, rfl, f2, m⟩ := (e2.view h2 l2).lst e2.sub
  rw [m.strs] at f2
  obtain ⟨F2', s2', e2', h2'⟩ := e2.hold h2
  exact ⟨a, b, ws, ev, rfl, .inl (SqL.of f2), hz, q _ F2' fi2 H2 (((s1.trans s1').trans s2).trans s2') (p1.trans p2) e2' (.str _)⟩
/-! ### t + u -/
theorem ev_addT {x y : List Dt} (ha : EvD T X G mu e1 r1 mu1) (hb : EvD T X G mu1 e2 r2 mu2) (h3 : x.length + y.length ≤ sizeLine) (l1 : look G r1 = some (.tup x) := by rfl) (l2 : look G r2 = some (.tup y) := by rfl) :
    EvD T X G mu (.BinOp e1 .Add e2 pos) (.dat (.tup (x ++ y))) mu2 := by
  refine ev_bin op_catA (fun B F fi sg H v u Q e g1 g2 q => ?_) ha hb
  obtain ⟨p, vs, rfl, f1, s1, m1⟩ := (e.viewH g1 l1).tup e.sub
  obtain ⟨p', ws, rfl, f1', s2, m2⟩ := (e.viewH g2 l2).tup e.sub
  refine ⟨p, p', vs, ws, rfl, rfl, SqT.of s1, SqT.of s2, by rw [m1.length, m2.length]; exact h3, fun z => ?_, fun _ z => ?_, fun _ _ q' hq' => ?_⟩
  · subst z
    cases m1
    exact q _ F fi H (Sub.refl F) (List.prefix_refl _) e (.tup f1' m2)
  · subst z
    cases m2
    rw [List.append_nil] at q
    exact q _ F fi H (Sub.refl F) (List.prefix_refl _) e (.tup f1 m1)
  · obtain ⟨F4, s4, e4, h4⟩ := e.newT hq' (m1.append m2)
    exact q _ F4 fi _ s4 (List.prefix_refl _) e4 h4
end
end Dl

set_option Elab.async false
set_option linter.all false
set_option maxRecDepth 100000
set_option maxHeartbeats 4000000
/-! DlMisc: shared objects, two names at once, try, list(range). -/
namespace Dl
open PySem PySem.Spec PyProof.Rows L2
section
variable {K : PySem.W.Frag} {T : Tbs} {B : Bs} {F F' : Hp} {fi fi' : List Addr} {sg sg' : L2.St} {H H' : Hp} {G G' : List Cell} {mu mu1 mu2 mu' : List Dt} {v : V} {d m : Dt} {i : Nat}
/-- a new object is shared from here on -/
theorem DE.share (e : DE K T B F fi sg H G mu) (h : RpR K B F fi sg H G v (.new m)) : ∃ p, v = .ref p ∧ DE K T B F (fi ++ [p]) sg H G (mu ++ [m]) ∧ Rp K F (fi ++ [p]) v (.ptr mu.length) := by
  obtain ⟨p, rfl, hF, ho, h1, h2, hB⟩ := h
  have pr : fi <+: fi ++ [p] := List.prefix_append _ _
  have hl : (fi ++ [p])[mu.length]? = some p := by rw [← e.lenm, List.getElem?_append_right (Nat.le_refl _), Nat.sub_self] <;> rfl
  refine ⟨p, rfl, ⟨e.sub, e.tab, e.len, by rw [List.length_append, List.length_append, e.lenm] <;> rfl, fun i d q => ?_, fun i m q => ?_, fun j a m' q y => ?_, e.oo, fun i m' q' j g s z => ?_, ?_, e.frame, fun a q => List.mem_append_left _ (e.fold a q), fun a q => ?_, e.fnew⟩, .ptr hl⟩
  · obtain ⟨v, a, b⟩ := e.slot i d q
    exact ⟨v, a, b.mono (Sub.refl F) pr⟩
  · obtain ⟨q', a, b, c, d⟩ := e.own i m q
    exact ⟨q', a, b, c.mono (Sub.refl F) pr rfl, d⟩
  · by_cases hj : j < fi.length
    · rw [List.getElem?_append_left hj] at q
      rw [List.getElem?_append_left (by rw [← e.lenm]; exact hj)] at y
      obtain ⟨b, c⟩ := e.obj j a m' q y
      exact ⟨b, c.mono (Sub.refl F) pr rfl⟩
    · have hj' : fi.length ≤ j := Nat.not_lt.mp hj
      rw [List.getElem?_append_right hj'] at q
      rw [List.getElem?_append_right (by rw [← e.lenm]; exact hj')] at y
      have e0 : j - fi.length = 0 := by
        have := (List.getElem?_eq_some_iff.mp q).1
        simp at this
        omega
      rw [e0] at q
      rw [← e.lenm, e0] at y
      cases q
      cases y
      exact ⟨hF, ho.mono (Sub.refl F) pr rfl⟩
  · by_cases hj : j < fi.length
    · rw [List.getElem?_append_left hj] at z
      exact e.om i m' q' j g s z
    · have hm : q' = p := by
        have hj' : fi.length ≤ j := Nat.not_lt.mp hj
        rw [List.getElem?_append_right hj'] at z
        exact List.mem_singleton.mp (List.mem_of_getElem? z)
      rw [hm] at s
      exact h1 i m' g s
  · refine List.nodup_append.mpr ⟨e.mm, by simp, fun a ha b hb => ?_⟩
    rw [List.mem_singleton.mp hb]
    intro z
    rw [z] at ha
    obtain ⟨j, hj⟩ := List.getElem?_of_mem ha
    exact h2 j hj
  · rcases List.mem_append.mp q with z | z
    · exact e.fpre a z
    · rw [List.mem_singleton.mp z]
      exact .inr hB
/-- a shared list is changed -/
theorem DE.chgP (e : DE K T B F fi sg H G mu) {j : Nat} {a : Addr} {ds ds' : List Dt} {vs' : List V} (hf : fi[j]? = some a) (hm : mu[j]? = some (.lst ds)) (hr : RpL K F fi vs' ds') : DE K T B F fi sg (upd H a (.lst vs')) G (mu.set j (.lst ds')) := by
  obtain ⟨h1, vs, h2, _⟩ := e.obj j a _ hf hm
  have ha : a ∈ fi := List.mem_of_getElem? hf
  have hlt : j < mu.length := (List.getElem?_eq_some_iff.mp hm).1
  refine ⟨fun b o q => ?_, fun p hp => ?_, e.len, by rw [List.length_set]; exact e.lenm, e.slot, fun i m q => ?_, fun k b m q y => ?_, e.oo, e.om, e.mm, fun b o q1 q2 q3 => ?_, e.fold, e.fpre, e.fnew⟩
  · rw [upd_ne (fun z => by rw [z, h1] at q; cases q)]
    exact e.sub b o q
  · obtain ⟨g1, ps, g3, g4⟩ := e.tab p hp
    have z : p ≠ a := fun z => by
      rw [z, h2] at g3
      cases g3
    exact ⟨g1, ps, by rw [upd_ne z]; exact g3, g4⟩
  · obtain ⟨p, a', b, c, d⟩ := e.own i m q
    have z : p ≠ a := fun z => e.om i m p j q a' (by rw [z]; exact hf)
    exact ⟨p, a', b, c.mono (Sub.refl F) (List.prefix_refl _) (upd_ne z), d⟩
  · by_cases hk : k = j
    · subst hk
      rw [List.getElem?_set_self hlt] at y
      cases y
      rw [hf] at q
      cases q
      exact ⟨h1, vs', upd_same, hr⟩
    · rw [List.getElem?_set_ne (Ne.symm hk)] at y
      obtain ⟨b', c⟩ := e.obj k b m q y
      have z : b ≠ a := fun z => by
        obtain ⟨hj1, e1⟩ := List.getElem?_eq_some_iff.mp hf
        obtain ⟨hk1, e2⟩ := List.getElem?_eq_some_iff.mp q
        exact hk ((List.getElem_inj e.mm).mp (by rw [e1, e2, z]))
      exact ⟨b', c.mono (Sub.refl F) (List.prefix_refl _) (upd_ne z)⟩
  · have z : b ≠ a := fun z => by
      rcases e.fpre a ha with y | y
      · exact q2 (by rw [z]; exact y)
      · rw [z, y] at q1
        cases q1
    rw [upd_ne z]
    exact e.frame b o q1 q2 q3
theorem Vw.ptr {j : Nat} (h : Vw K F fi H v (.ptr j)) : ∃ a, v = .ref a ∧ fi[j]? = some a := by
  rcases h with h | ⟨p, _, h⟩
  · cases h with
    | ptr h => exact ⟨_, rfl, h⟩
  · exact h.elim
end
section
variable {T : Tbs} {X : Cx} {W : WX} {G G' : List Cell} {mu mu1 mu2 mu3 : List Dt} {r r1 r2 : Res} {rs : List Res} {a b c e : Expr} {pos pos' p : Pos} {d d1 d2 m : Dt} {ds : List Dt} {x y : Str}
theorem ev_share (he : EvD T X G mu e (.new m) mu1) : EvD T X G mu e (.dat (.ptr mu1.length)) (mu1 ++ [m]) :=
  pe_imp he fun sg H Q ⟨B, F, fi, e, q⟩ => ⟨B, F, fi, e, fun v F' fi' H' s p e' h' => by
    obtain ⟨a, rfl, e2, h2⟩ := e'.share h'
    exact q _ F' _ H' s (p.trans (List.prefix_append _ _)) e2 h2⟩
theorem ev_ixP {j : Nat} {i : Int} (ha : EvD T X G mu a r1 mu1) (hb : EvD T X G mu1 b r2 mu2) (hm : mu2[j]? = some (.lst ds)) (hi : atI ds i = some d) (l1 : look G r1 = some (.ptr j) := by rfl) (l2 : look G r2 = some (.int i) := by rfl) (hs : PlainIx b := by exact fun _ _ => rfl) :
    EvD T X G mu (.Subscript a b pos) (.dat d) mu2 := by
  refine pe_imp (pe_ix ix_list ha hb hs) (rd_op fun B F fi sg H v u Q e h1 h2 q => ?_)
  obtain ⟨p, rfl, hf⟩ := (e.viewH h1 l1).ptr
  obtain ⟨_, vs, f2, mm⟩ := e.obj j p _ hf hm
  obtain ⟨w, e1, e2⟩ := mm.at hi
  exact ⟨p, vs, i, w, rfl, (e.viewH h2 l2).int, SqL.of f2, e1, q _ F fi H (Sub.refl F) (List.prefix_refl _) e e2⟩
theorem ev_lenP {j : Nat} (h : EvD T X G mu e r mu1) (hm : X.mg "len" = none) (hj : mu1[j]? = some (.lst ds)) (l : look G r = some (.ptr j) := by rfl) (hg : Gl X "len" := by rfl) (he : starEach [e] X.env = (false, eval e X.env) :: starEach [] X.env := by rfl) :
    EvD T X G mu (.Call (.Name "len" p) [e] [] pos) (.dat (.int (ds.length : Nat))) mu1 := by
  refine ev_B call_len_seq (fun B F fi sg H vs Q e m q => ?_) (ea_cons h ea_nil he) hm boot_len hg (by decide) (by decide) he
  cases m with
  | cons m1 m2 =>
    cases m2
    obtain ⟨p, rfl, hf⟩ := (e.viewH m1 l).ptr
    obtain ⟨_, ws, f2, mm⟩ := e.obj j p _ hf hj
    refine ⟨p, ws, rfl, .inl (SqL.of f2), q _ F fi H (Sub.refl F) (List.prefix_refl _) e ?_⟩
    rw [mm.length]
    exact .int _
/-- x[i] = e, x a shared list -/
theorem sd_setP {j n : Nat} {k : Int} {tpos : Pos} (he : EvD T X G mu e (.dat d) mu1) (ho : EvD T X G mu1 a (.dat (.ptr j)) mu1) (hi : EvD T X G mu1 b (.dat (.int k)) mu1) (hm : mu1[j]? = some (.lst ds)) (hk : ixN ds.length k = some n)
    (hs : swapsWithSole [.Subscript a b tpos] e pos.line X.env = pure false := by rfl) (hw : swappedStores [.Subscript a b tpos] e X.env = pure none := by rfl) (h1 : (assignEach [.Subscript a b tpos] X.env).map (·.2) = [assign (.Subscript a b tpos) X.env] := by rfl)
    (hpg : ∀ v, assign (.Subscript a b tpos) X.env v = (do
      let ov ← holding [v] (eval a X.env)
      let iv ← holding [v, ov] (eval b X.env)
      standAt tpos
      holding [v, ov, iv] (setItem ov iv v)
      release [v, ov, iv] []) := by intro _; rfl) : SD T X W G mu (.Assign [.Subscript a b tpos] e pos) (.nx G (mu1.set j (.lst (ds.set n d)))) := by
  refine ps_imp (ps_asg he (pg_sub ho hi set_list hpg) hs hw h1) fun D sg H ⟨B, F, fi, e, q⟩ => ⟨B, F, fi, e, fun v F1 fi1 H1 s1 p1 e1 h1 => ?_⟩
  refine ⟨B, F1, fi1, e1, fun o F2 fi2 H2 s2 p2 e2 h2 => ⟨B, F2, fi2, e2, fun i F3 fi3 H3 s3 p3 e3 h3 => ?_⟩⟩
  have h2' := Rp.mono s3 p3 h2
  cases h2' with
  | ptr hf =>
    cases h3
    obtain ⟨_, vs, f2, mm⟩ := e3.obj j _ _ hf hm
    refine ⟨_, vs, k, n, rfl, rfl, f2, by rw [mm.length]; exact hk, ?_⟩
    exact q F3 fi3 sg _ ((s1.trans s2).trans s3) ((p1.trans p2).trans p3) (e3.chgP hf hm (mm.set (Rp.mono (s2.trans s3) (p2.trans p3) h1) n))
/-- a, b = e -/
theorem sd_asg {tg : Expr} {ix : List Nat} (he : EvD T X G mu e (.dat d) mu1) (hg : EvG T X G mu1 tg d G' ix) (hs : swapsWithSole [tg] e pos.line X.env = pure false := by rfl) (hw : swappedStores [tg] e X.env = pure none := by rfl)
    (h1 : (assignEach [tg] X.env).map (·.2) = [assign tg X.env] := by rfl) : SD T X W G mu (.Assign [tg] e pos) (.nx G' mu1) :=
  ps_imp (ps_asg he hg hs hw h1) fun D sg H ⟨B, F, fi, e, q⟩ => ⟨B, F, fi, e, fun v F1 fi1 H1 s1 p1 e1 h1 => ⟨B, F1, fi1, e1, h1, fun F2 fi2 sg2 H2 s2 p2 e2 _ => q F2 fi2 sg2 H2 (s1.trans s2) (p1.trans p2) e2⟩⟩
/-- x, y = a, b -/
theorem sd_par {px py pt pt2 : Pos} {kt k2 : Nat} (hc : X.calm = true) (hN : X.N.Nodup) (i j : Nat) (h1 : EvD T X G mu a r1 mu1) (h2 : EvD T X G mu1 b r2 mu2) (hd : Dats [r1, r2] [d1, d2]) (hi : X.N[i]? = some x := by rfl) (hj : X.N[j]? = some y := by rfl) (hij : i ≠ j := by decide)
    (hx : X.env.scope.names.lookup x = some .local := by rfl) (hy : X.env.scope.names.lookup y = some .local := by rfl)
    (he : starEach [a, b] X.env = (false, eval a X.env) :: starEach [b] X.env := by rfl) (he2 : starEach [b] X.env = (false, eval b X.env) :: starEach [] X.env := by rfl)
    (hw : swappedStores [.Tuple [.Name x px, .Name y py] kt pt] (.Tuple [a, b] k2 pt2) X.env = pure (some [x, y]) := by rfl)
    (hs : swapsWithSole [.Tuple [.Name x px, .Name y py] kt pt] (.Tuple [a, b] k2 pt2) pos.line X.env = pure false := by rfl) :
    SD T X W G mu (.Assign [.Tuple [.Name x px, .Name y py] kt pt] (.Tuple [a, b] k2 pt2) pos) (.nx ((G.set i (.val d1)).set j (.val d2)) mu2) := by
  refine ps_imp (ps_par hc hN hi hj hij hx hy (ea_cons h1 (ea_cons h2 ea_nil he2) he) hw hs) fun D sg H ⟨B, F, fi, e, q⟩ => ⟨B, F, fi, e, fun vs F1 fi1 H1 s1 p1 e1 m1 => ?_⟩
  have m2 := m1.dats hd
  cases m2 with
  | cons q1 q2 =>
    cases q2 with
    | cons q2 q3 =>
      cases q3
      exact ⟨_, _, rfl, q F1 fi1 _ H1 s1 p1 ((e1.setV q1).setV q2)⟩
/-- list(range(e)) -/
theorem ev_listrange {n : Int} {q1 p2 : Pos} (hc : X.calm = true) (h : EvD T X G mu e r mu1) (hm : X.mg "list" = none) (hm2 : X.mg "range" = none) (h0 : 0 ≤ n) (hz : n ≤ 16777216) (l : look G r = some (.int n) := by rfl) (hg : Gl X "list" := by rfl) (hg2 : Gl X "range" := by rfl) (he : starEach [e] X.env = (false, eval e X.env) :: starEach [] X.env := by rfl)
    (he2 : starEach [.Call (.Name "range" p2) [e] [] q1] X.env = (false, eval (.Call (.Name "range" p2) [e] [] q1) X.env) :: starEach [] X.env := by rfl) :
    EvD T X G mu (.Call (.Name "list" p) [.Call (.Name "range" p2) [e] [] q1] [] pos) (.new (.lst (rngD 0 n.toNat))) mu1 := by
  refine pe_imp (pe_listRg hc hg hm (prg_1 hg2 hm2 h he) he2) fun sg H Q ⟨B, F, fi, e, q⟩ => ⟨B, F, fi, e, fun v F1 fi1 H1 s1 p1 e1 h1 => ?_⟩
  refine ⟨n, (e1.view h1 l).int, RgOk.of_le (Int.le_refl 0) hz (by decide) h0, fun p hp => ?_⟩
  have hr : RpL X.K F1 fi1 (rgV 0 n) (rngD 0 n.toNat) := by
    have e1 : rgV 0 n = ((List.range n.toNat).map fun i : Nat => (0 + (i : Int))).map V.int := by
      unfold rgV
      rw [List.map_map, Int.sub_zero]
      rfl
    have e2 : rngD 0 n.toNat = ((List.range n.toNat).map fun i : Nat => (0 + (i : Int))).map Dt.int := by
      unfold rngD
      rw [List.map_map]
      rfl
    rw [e1, e2]
    exact RpL.of_ints _
  obtain ⟨e2, k2⟩ := e1.newL hp hr
  exact q _ F1 fi1 _ s1 p1 e2 k2
/-- try .. except X: .., the body raises nothing -/
theorem sd_try0 {body suite : List Stmt} {b0 : Stmt} {np : Pos} {cv : Value} {o : SOut} (hs : X.stack = X.env :: X.outer) (hf : X.env.frame = some X.env.locals) (hn : Names X x cv)
    (hb : ∀ (W' : WX) (pn : List (Addr × Obj)) (xe : Value → Shared → Prop), Takes (X.tr pn xe) W' → SDs T (X.tr pn xe) W' G mu body o) (ho : ∀ C fs m, o ≠ .exc C fs m := by intro _ _ _ h; cases h) :
    SD T X W G mu (.Try body [.ExceptHandler (some (.Name x np)) none (b0 :: suite) pos'] [] [] pos) o := by
  refine ps_imp (ps_try_only (Wout := fun _ _ _ _ => False) (tb := fun W' D σ H => rdS X.K T W' G mu o D σ H) (ts := fun _ _ _ => tNever) hs hf hn takes_none5 (fun W' pn xe tk _ => hb W' pn xe tk) fun a oe cls d pn _ _ => pss_never) fun D sg H ⟨B, F, fi, e, q⟩ => ⟨B, F, fi, e, ?_⟩
  cases o with
  | exc C fs m => exact absurd rfl (ho C fs m)
  | nx G mu => exact q
  | ret r mu => exact q
  | brk G mu => exact q
  | ct G mu => exact q
end
end Dl

set_option Elab.async false
set_option linter.all false
set_option maxRecDepth 100000
set_option maxHeartbeats 4000000
/-! DlFn: facts of the module by names, a def's contract, the law's entry. -/
namespace Dl
open PySem PySem.Spec PyProof.Rows L2
/-- the tables: of the defs tf; those of tl make lambdas of one name -/
def tabsOf (tf : List He.Defn) (tl : List (He.Defn × Str)) (K : PySem.W.Frag) : Tbs := ⟨tf.map fun p => (He.cT K p).2, fun a => (tl.find? fun p => decide ((He.cT K p.1).2 = a)).map (·.2)⟩
/-- a def with a lambda: of its name; another one: without -/
def lamsB (tf : List He.Defn) (tl : List (He.Defn × Str)) (K : PySem.W.Frag) : Bool := tf.all fun p => decide ((tabsOf tf tl K).q (He.cT K p).2 = tl.lookup p)
/-- what is known of the module: fa: its names; fn: its defs; tf: the defs whose code object's table is told -/
structure Fc (fa : List He.Fa) (fn : List He.DefD) (tf : List He.Defn) (tl : List (He.Defn × Str)) (K : PySem.W.Frag) (mg : Str → Option Value) (base : Heap) : Prop where
  kin : K.In base
  ns : base.Ns mainGlobals mg
  fact : ∀ f ∈ fa, f.ok K = true
  dfn : ∀ d ∈ fn, ∃ fd, FunD K d.name d.qual d.params d.body d.scope (d.dvs K) (d.kws K) (He.fAd K d.at_) fd
  tb : ∀ p ∈ tf, GxR.TabB base mg (He.cT K p).1 (He.cT K p).2
  lm : lamsB tf tl K = true
section
variable {fa : List He.Fa} {fn : List He.DefD} {tf : List He.Defn} {tl : List (He.Defn × Str)} {P : Program} {w : World} {K : PySem.W.Frag} {mg : Str → Option Value} {base : Heap}
theorem Fc.glo (c : Fc fa fn tf tl K mg base) (i : Nat) {x : Str} (h : fa[i]? = some (.glo x) := by rfl) : mg x = some (.ref (He.ga K x)) := He.glo_ok c.kin c.ns (c.fact _ (List.mem_of_getElem? h))
theorem Fc.free (c : Fc fa fn tf tl K mg base) (i : Nat) {x : Str} (h : fa[i]? = some (.free x) := by rfl) : mg x = none := He.free_ok c.kin c.ns (c.fact _ (List.mem_of_getElem? h))
theorem Fc.int (c : Fc fa fn tf tl K mg base) (i : Nat) {x : Str} {n : Int} (h : fa[i]? = some (.int x n) := by rfl) : ∃ t, mg x = some (.int n t) := He.int_ok c.kin c.ns (c.fact _ (List.mem_of_getElem? h))
theorem Fc.str (c : Fc fa fn tf tl K mg base) (i : Nat) {x z : Str} (h : fa[i]? = some (.str x z) := by rfl) : ∃ t, mg x = some (.str z t) := He.str_ok c.kin c.ns (c.fact _ (List.mem_of_getElem? h))
theorem Fc.tab (c : Fc fa fn tf tl K mg base) (i : Nat) {p : He.Defn} (h : tf[i]? = some p := by rfl) (hl : tl.lookup p = none := by rfl) : GxR.TabB base mg (He.cT K p).1 (He.cT K p).2 ∧ (He.cT K p).2 ∈ tabsOf tf tl K ∧ (tabsOf tf tl K).q (He.cT K p).2 = none :=
  ⟨c.tb _ (List.mem_of_getElem? h), List.mem_map.mpr ⟨p, List.mem_of_getElem? h, rfl⟩, (of_decide_eq_true (List.all_eq_true.mp c.lm p (List.mem_of_getElem? h))).trans hl⟩
/-- .. with a lambda -/
theorem Fc.lam (c : Fc fa fn tf tl K mg base) (i : Nat) {p : He.Defn} {q : Str} (h : tf[i]? = some p := by rfl) (hl : tl.lookup p = some q := by rfl) : GxR.TabB base mg (He.cT K p).1 (He.cT K p).2 ∧ (He.cT K p).2 ∈ tabsOf tf tl K ∧ (tabsOf tf tl K).q (He.cT K p).2 = some q :=
  ⟨c.tb _ (List.mem_of_getElem? h), List.mem_map.mpr ⟨p, List.mem_of_getElem? h, rfl⟩, (of_decide_eq_true (List.all_eq_true.mp c.lm p (List.mem_of_getElem? h))).trans hl⟩
/-- a def of the text -/
abbrev dOf (x : Str) (st : Stmt) : He.DefD := ⟨(x, none), x, x, defArgs st, defBody st, defScope st, [], []⟩
/-- the context of a def's body -/
abbrev cxF (P : Program) (w : World) (K : PySem.W.Frag) (mg : Str → Option Value) (base : Heap) (N : List Str) (x : Str) (st : Stmt) (A : Around) (outer : List Env) (s : Shared) (H : Hp) (E : XK) : Cx :=
  cxD P w K mg base N x (defScope st) (He.fAd K (x, none)) (.ref (He.codeOf K (x, none))) A outer s H E
/-- THE RULE: a def's contract, by its body -/
theorem fn_DD {T : Tbs} {k i : Nat} {x : Str} {st : Stmt} {N ps : List Str} {S : FSpec} (c : Fc fa fn tf tl K mg base) (hd : fn[i]? = some (dOf x st)) (hm : mg x = some (.ref (He.ga K x))) (Sc : FnScope N ps (defScope st))
    (bnd : ∀ (kV doc pm : Value) (an : Option Addr) (cdv ct : Value) (us : List Value), us.length = ps.length → bindArgs (PySem.W.fnOf x x (defArgs st) (defBody st) (defScope st) .none kV doc pm an cdv ct) ⟨us, []⟩ = pure (ps.zip us))
    (len : ∀ ds mu o, S ds mu o → ds.length = ps.length)
    (body : ∀ (A : Around) (outer : List Env) (s : Shared) (H : Hp) (E : XK), Room k (cxF P w K mg base N x st A outer s H E).A → ∀ ds mu o, S ds mu o → ∃ o', EndF o' o ∧ SDs T (cxF P w K mg base N x st A outer s H E) (wxE E) (start0 N.length ds) mu (defBody st) o') :
    FnG P w K mg base T (k + 1) x S := by
  obtain ⟨fd, F⟩ := c.dfn _ (List.mem_of_getElem? hd)
  have F : FunD K x x (defArgs st) (defBody st) (defScope st) [] [] (He.fAd K (x, none)) fd := F
  have b : Binds K fd ps [] := F.bindsN bnd
  have kp := F.kp
  obtain ⟨oc, od, dV, kV, doc, pm, an, cdv, ct, osl, e, lk, hcd, hD, hK⟩ := F.ex
  obtain ⟨cc, rfl⟩ := He.codeIn_ref hcd
  have hc : He.codeOf K (x, none) = cc := He.codeOf_eq (p := (x, none)) lk (by rw [e] <;> rfl)
  subst e
  subst hc
  refine ⟨⟨He.ga K x, _, ps, hm, kp, b, ?_⟩⟩
  refine fn_of lk hcd Sc (fun vs H Q E h => ?_) fun A outer s H vs Q E hr h => ?_
  · obtain ⟨F, fi, mu, ds, o, _, h2, h3, _⟩ := h
    rw [h2.length]
    exact len ds mu o h3
  · obtain ⟨F, fi, mu, ds, o, h1, h2, h3, h4⟩ := h
    obtain ⟨o', h5, h6⟩ := body A outer s H E hr ds mu o h3
    refine ⟨_, h6, ⟨F, H, fi⟩, F, fi, h1.start h2, ?_⟩
    cases h5 with
    | same n1 n2 n3 =>
      cases o with
      | ret r mu => exact h4
      | exc C fs mu => exact fun d F' fi' _ H' => h4 d F' fi' H'
      | nx G mu => exact absurd rfl (n1 G mu)
      | brk G mu => exact absurd rfl (n2 G mu)
      | ct G mu => exact absurd rfl (n3 G mu)
    | fall => exact fun F' fi' sg' H' s p e' => h4 _ F' fi' H' s p e'.strip .non
/-- the law's entry -/
theorem law_in {T : Tbs} {H : Hp} {a : Addr} {ns : List Int} {S : FSpec} {mu' : List Dt} (hT : ∀ p ∈ T, H p = some (.tbl #[])) (hS : SqL K H a (ns.map V.int)) (h : S [.scr ns] [] (.ret (.dat (.bl true)) mu')) : spD K T S [.ref a] H (fun v _ => v = .bl true) fun _ _ _ => False := by
  have mk : ∀ F : Hp, Sub F H → (∀ p ∈ T, F p = none) → SqL K F a (ns.map V.int) → spD K T S [.ref a] H (fun v _ => v = .bl true) fun _ _ _ => False := fun F s hF q => by
    refine ⟨F, [], [], [.scr ns], _, ⟨s, fun p hp => ⟨hF p hp, #[], hT p hp, True.intro, fun q _ pos cv hc => by
      have hc : codeAmong pos [] = some cv := hc
      simp [codeAmong] at hc⟩, rfl, rfl, fun i d h => by simp at h, fun i m h => by simp at h, fun j a m h => by simp at h, fun i j m n p h => by simp at h, fun i m p j h => by simp at h, List.nodup_nil, fun a o h _ _ => h, fun a h => h, fun a h => .inl h, fun a o h => .inl h⟩, .cons (.scr q) .nil, h, ?_⟩
    intro v F' fi' H' _ _ _ hv
    cases hv
    rfl
  rcases hS with hS | hS
  · refine mk (fun b => if b = a then H b else none) (fun b o q => ?_) (fun p hp => ?_) (.inl ?_)
    · have q : (if b = a then H b else none) = some o := q
      by_cases hb : b = a
      · rwa [if_pos hb] at q
      · rw [if_neg hb] at q
        cases q
    · refine if_neg fun z => ?_
      have q := hT p hp
      rw [z] at q
      rcases hS with e | ⟨o, e⟩ <;> rw [q] at e <;> cases e
    · rcases hS with e | ⟨o, e⟩
      · exact .inl ((if_pos rfl).trans e)
      · exact .inr ⟨o, (if_pos rfl).trans e⟩
  · exact mk (fun _ => none) (fun b o q => by cases q) (fun _ _ => rfl) (.inr hS)
end
section
variable {T : Tbs} {X : Cx} {G : List Cell} {mu mu1 mu2 : List Dt} {r r1 r2 : Res} {e a b : Expr} {pos p : Pos} {ns : List Int}
/-- the script's length, its i-th number -/
theorem ev_lenScr (h : EvD T X G mu e (.dat (.scr ns)) mu1) (hm : X.mg "len" = none) (hg : Gl X "len" := by rfl) (he : starEach [e] X.env = (false, eval e X.env) :: starEach [] X.env := by rfl) :
    EvD T X G mu (.Call (.Name "len" p) [e] [] pos) (.dat (.int (ns.length : Nat))) mu1 := by
  refine ev_B call_len_seq (fun B F fi sg H vs Q e m q => ?_) (ea_cons h ea_nil he) hm boot_len hg (by decide) (by decide) he
  cases m with
  | cons m1 m2 =>
    cases m2
    cases m1 with
    | scr hs =>
      refine ⟨_, ns.map V.int, rfl, .inl (e.sub.sql hs), q _ F fi H (Sub.refl F) (List.prefix_refl _) e ?_⟩
      rw [List.length_map]
      exact .int _
theorem ev_ixScr {i x : Int} (ha : EvD T X G mu a (.dat (.scr ns)) mu1) (hb : EvD T X G mu1 b r2 mu2) (hi : atI ns i = some x) (l2 : look G r2 = some (.int i) := by rfl) (hs : PlainIx b := by exact fun _ _ => rfl) :
    EvD T X G mu (.Subscript a b pos) (.dat (.int x)) mu2 := by
  refine pe_imp (pe_ix ix_list ha hb hs) (rd_op fun B F fi sg H v u Q e h1 h2 q => ?_)
  have h1 : Rp X.K F fi v (.scr ns) := h1
  cases h1 with
  | scr hq =>
    refine ⟨_, ns.map V.int, i, .int x, rfl, (e.viewH h2 l2).int, e.sub.sql hq, ?_, q _ F fi H (Sub.refl F) (List.prefix_refl _) e (.int x)⟩
    unfold atI at hi ⊢
    rw [List.length_map]
    cases q : ixN ns.length i with
    | none => rw [q] at hi; cases hi
    | some j =>
      rw [q] at hi
      show (ns.map V.int)[j]? = _
      rw [List.getElem?_map, show ns[j]? = some x from hi] <;> rfl
end
/-! ### isinstance, by type -/
def Dt.isInt : Dt → Bool
  | .bl _ => true
  | .int _ => true
  | _ => false
theorem kit_NoneType_int : kitB "NoneType" "int" = some false := by decide +kernel
theorem kit_bool_int : kitB "bool" "int" = some true := by decide +kernel
theorem kit_int_int : kitB "int" "int" = some true := by decide +kernel
theorem kit_str_int : kitB "str" "int" = some false := by decide +kernel
theorem kit_tuple_int : kitB "tuple" "int" = some false := by decide +kernel
theorem kit_list_int : kitB "list" "int" = some false := by decide +kernel
theorem kitInt {d : Dt} {n : String} (h : tyN d = some n) : kitB n "int" = some d.isInt := by
  cases d with
  | non => cases h; exact kit_NoneType_int
  | bl _ => cases h; exact kit_bool_int
  | int _ => cases h; exact kit_int_int
  | str _ => cases h; exact kit_str_int
  | tup _ => cases h; exact kit_tuple_int
  | lst _ => cases h; exact kit_list_int
  | _ => cases h
def Dt.isBool : Dt → Bool
  | .bl _ => true
  | _ => false
theorem kit_NoneType_bool : kitB "NoneType" "bool" = some false := by decide +kernel
theorem kit_bool_bool : kitB "bool" "bool" = some true := by decide +kernel
theorem kit_int_bool : kitB "int" "bool" = some false := by decide +kernel
theorem kit_str_bool : kitB "str" "bool" = some false := by decide +kernel
theorem kit_tuple_bool : kitB "tuple" "bool" = some false := by decide +kernel
theorem kit_list_bool : kitB "list" "bool" = some false := by decide +kernel
theorem kitBool {d : Dt} {n : String} (h : tyN d = some n) : kitB n "bool" = some d.isBool := by
  cases d with
  | non => cases h; exact kit_NoneType_bool
  | bl _ => cases h; exact kit_bool_bool
  | int _ => cases h; exact kit_int_bool
  | str _ => cases h; exact kit_str_bool
  | tup _ => cases h; exact kit_tuple_bool
  | lst _ => cases h; exact kit_list_bool
  | _ => cases h
def Dt.isTup : Dt → Bool
  | .tup _ => true
  | _ => false
theorem kit_NoneType_tuple : kitB "NoneType" "tuple" = some false := by decide +kernel
theorem kit_bool_tuple : kitB "bool" "tuple" = some false := by decide +kernel
theorem kit_int_tuple : kitB "int" "tuple" = some false := by decide +kernel
theorem kit_str_tuple : kitB "str" "tuple" = some false := by decide +kernel
theorem kit_tuple_tuple : kitB "tuple" "tuple" = some true := by decide +kernel
theorem kit_list_tuple : kitB "list" "tuple" = some false := by decide +kernel
theorem kitTup {d : Dt} {n : String} (h : tyN d = some n) : kitB n "tuple" = some d.isTup := by
  cases d with
  | non => cases h; exact kit_NoneType_tuple
  | bl _ => cases h; exact kit_bool_tuple
  | int _ => cases h; exact kit_int_tuple
  | str _ => cases h; exact kit_str_tuple
  | tup _ => cases h; exact kit_tuple_tuple
  | lst _ => cases h; exact kit_list_tuple
  | _ => cases h
def Dt.isLst : Dt → Bool
  | .lst _ => true
  | _ => false
theorem kit_NoneType_list : kitB "NoneType" "list" = some false := by decide +kernel
theorem kit_bool_list : kitB "bool" "list" = some false := by decide +kernel
theorem kit_int_list : kitB "int" "list" = some false := by decide +kernel
theorem kit_str_list : kitB "str" "list" = some false := by decide +kernel
theorem kit_tuple_list : kitB "tuple" "list" = some false := by decide +kernel
theorem kit_list_list : kitB "list" "list" = some true := by decide +kernel
theorem kitLst {d : Dt} {n : String} (h : tyN d = some n) : kitB n "list" = some d.isLst := by
  cases d with
  | non => cases h; exact kit_NoneType_list
  | bl _ => cases h; exact kit_bool_list
  | int _ => cases h; exact kit_int_list
  | str _ => cases h; exact kit_str_list
  | tup _ => cases h; exact kit_tuple_list
  | lst _ => cases h; exact kit_list_list
  | _ => cases h
def Dt.isStr : Dt → Bool
  | .str _ => true
  | _ => false
theorem kit_NoneType_str : kitB "NoneType" "str" = some false := by decide +kernel
theorem kit_bool_str : kitB "bool" "str" = some false := by decide +kernel
theorem kit_int_str : kitB "int" "str" = some false := by decide +kernel
theorem kit_str_str : kitB "str" "str" = some true := by decide +kernel
theorem kit_tuple_str : kitB "tuple" "str" = some false := by decide +kernel
theorem kit_list_str : kitB "list" "str" = some false := by decide +kernel
theorem kitStr {d : Dt} {n : String} (h : tyN d = some n) : kitB n "str" = some d.isStr := by
  cases d with
  | non => cases h; exact kit_NoneType_str
  | bl _ => cases h; exact kit_bool_str
  | int _ => cases h; exact kit_int_str
  | str _ => cases h; exact kit_str_str
  | tup _ => cases h; exact kit_tuple_str
  | lst _ => cases h; exact kit_list_str
  | _ => cases h
theorem boot_bool' : bootBuiltins "bool" = some (.type "bool") := by decide +kernel
section
variable {T : Tbs} {X : Cx} {G : List Cell} {mu mu1 : List Dt} {r : Res} {d : Dt} {e : Expr} {pos p p2 : Pos}
theorem ev_isInt (h : EvD T X G mu e r mu1) (hm : X.mg "isinstance" = none) (hmx : X.mg "int" = none) (l : look G r = some d := by rfl) (hn : (tyN d).isSome = true := by rfl) (hg : Gl X "isinstance" := by rfl) (hgx : Gl X "int" := by rfl)
    (he : starEach [e, .Name "int" p2] X.env = (false, eval e X.env) :: starEach [.Name "int" p2] X.env := by rfl) (he2 : starEach [.Name "int" p2] X.env = (false, eval (.Name "int" p2) X.env) :: starEach [] X.env := by rfl) (hpl : (backTo pos (starEach [.Name "int" p2] X.env)).any (·.1) = false := by rfl) :
    EvD T X G mu (.Call (.Name "isinstance" p) [e, .Name "int" p2] [] pos) (.dat (.bl d.isInt)) mu1 := by
  obtain ⟨n, hn⟩ := Option.isSome_iff_exists.mp hn
  exact ev_isi h hm hmx PyProof.Rows.boot_int hn (kitInt hn) l hg hgx (by decide) (by decide) he he2 hpl
theorem ev_isBool (h : EvD T X G mu e r mu1) (hm : X.mg "isinstance" = none) (hmx : X.mg "bool" = none) (l : look G r = some d := by rfl) (hn : (tyN d).isSome = true := by rfl) (hg : Gl X "isinstance" := by rfl) (hgx : Gl X "bool" := by rfl)
    (he : starEach [e, .Name "bool" p2] X.env = (false, eval e X.env) :: starEach [.Name "bool" p2] X.env := by rfl) (he2 : starEach [.Name "bool" p2] X.env = (false, eval (.Name "bool" p2) X.env) :: starEach [] X.env := by rfl) (hpl : (backTo pos (starEach [.Name "bool" p2] X.env)).any (·.1) = false := by rfl) :
    EvD T X G mu (.Call (.Name "isinstance" p) [e, .Name "bool" p2] [] pos) (.dat (.bl d.isBool)) mu1 := by
  obtain ⟨n, hn⟩ := Option.isSome_iff_exists.mp hn
  exact ev_isi h hm hmx boot_bool' hn (kitBool hn) l hg hgx (by decide) (by decide) he he2 hpl
theorem ev_isTup (h : EvD T X G mu e r mu1) (hm : X.mg "isinstance" = none) (hmx : X.mg "tuple" = none) (l : look G r = some d := by rfl) (hn : (tyN d).isSome = true := by rfl) (hg : Gl X "isinstance" := by rfl) (hgx : Gl X "tuple" := by rfl)
    (he : starEach [e, .Name "tuple" p2] X.env = (false, eval e X.env) :: starEach [.Name "tuple" p2] X.env := by rfl) (he2 : starEach [.Name "tuple" p2] X.env = (false, eval (.Name "tuple" p2) X.env) :: starEach [] X.env := by rfl) (hpl : (backTo pos (starEach [.Name "tuple" p2] X.env)).any (·.1) = false := by rfl) :
    EvD T X G mu (.Call (.Name "isinstance" p) [e, .Name "tuple" p2] [] pos) (.dat (.bl d.isTup)) mu1 := by
  obtain ⟨n, hn⟩ := Option.isSome_iff_exists.mp hn
  exact ev_isi h hm hmx PyProof.Rows.boot_tuple hn (kitTup hn) l hg hgx (by decide) (by decide) he he2 hpl
theorem ev_isLst (h : EvD T X G mu e r mu1) (hm : X.mg "isinstance" = none) (hmx : X.mg "list" = none) (l : look G r = some d := by rfl) (hn : (tyN d).isSome = true := by rfl) (hg : Gl X "isinstance" := by rfl) (hgx : Gl X "list" := by rfl)
    (he : starEach [e, .Name "list" p2] X.env = (false, eval e X.env) :: starEach [.Name "list" p2] X.env := by rfl) (he2 : starEach [.Name "list" p2] X.env = (false, eval (.Name "list" p2) X.env) :: starEach [] X.env := by rfl) (hpl : (backTo pos (starEach [.Name "list" p2] X.env)).any (·.1) = false := by rfl) :
    EvD T X G mu (.Call (.Name "isinstance" p) [e, .Name "list" p2] [] pos) (.dat (.bl d.isLst)) mu1 := by
  obtain ⟨n, hn⟩ := Option.isSome_iff_exists.mp hn
  exact ev_isi h hm hmx PyProof.Rows.boot_list hn (kitLst hn) l hg hgx (by decide) (by decide) he he2 hpl
theorem ev_isStr (h : EvD T X G mu e r mu1) (hm : X.mg "isinstance" = none) (hmx : X.mg "str" = none) (l : look G r = some d := by rfl) (hn : (tyN d).isSome = true := by rfl) (hg : Gl X "isinstance" := by rfl) (hgx : Gl X "str" := by rfl)
    (he : starEach [e, .Name "str" p2] X.env = (false, eval e X.env) :: starEach [.Name "str" p2] X.env := by rfl) (he2 : starEach [.Name "str" p2] X.env = (false, eval (.Name "str" p2) X.env) :: starEach [] X.env := by rfl) (hpl : (backTo pos (starEach [.Name "str" p2] X.env)).any (·.1) = false := by rfl) :
    EvD T X G mu (.Call (.Name "isinstance" p) [e, .Name "str" p2] [] pos) (.dat (.bl d.isStr)) mu1 := by
  obtain ⟨n, hn⟩ := Option.isSome_iff_exists.mp hn
  exact ev_isi h hm hmx PyProof.Rows.boot_str hn (kitStr hn) l hg hgx (by decide) (by decide) he he2 hpl
end
end Dl

set_option Elab.async false
set_option linter.all false
set_option maxRecDepth 100000
set_option maxHeartbeats 4000000
/-! DlUse: the rules with their side conditions last. -/
namespace Dl
open PySem PySem.Spec PyProof.Rows L2
section
variable {T : Tbs} {X : Cx} {W : WX} {G G' : List Cell} {mu mu1 mu2 : List Dt} {r r' : Res} {a b c e : Expr} {rest : List Expr} {sa sb : List Stmt} {pos : Pos} {k k' : Bool} {o : SOut} {d d' : Dt}
theorem andT (h : EvD T X G mu a (.dat (.bl k)) mu1) (h2 : EvD T X G mu1 (.BoolOp .And (b :: rest) pos) r mu2) (hk : k = true := by rfl) : EvD T X G mu (.BoolOp .And (a :: b :: rest) pos) r mu2 := by subst hk; exact ev_andT h h2
theorem andF (h : EvD T X G mu a (.dat (.bl k)) mu1) (hk : k = false := by rfl) : EvD T X G mu (.BoolOp .And (a :: b :: rest) pos) (.dat (.bl false)) mu1 := by subst hk; exact ev_andF h
theorem orF (h : EvD T X G mu a (.dat (.bl k)) mu1) (h2 : EvD T X G mu1 (.BoolOp .Or (b :: rest) pos) r mu2) (hk : k = false := by rfl) : EvD T X G mu (.BoolOp .Or (a :: b :: rest) pos) r mu2 := by subst hk; exact ev_orF h h2
theorem orT (h : EvD T X G mu a (.dat (.bl k)) mu1) (hk : k = true := by rfl) : EvD T X G mu (.BoolOp .Or (a :: b :: rest) pos) (.dat (.bl true)) mu1 := by subst hk; exact ev_orT h
theorem ifxT (hc : EvT T X G mu c k mu1) (ha : EvD T X G mu1 a r mu2) (hk : k = true := by rfl) : EvD T X G mu (.IfExp c a b pos) r mu2 := by subst hk; exact ev_ifT hc ha
theorem ifxF (hc : EvT T X G mu c k mu1) (hb : EvD T X G mu1 b r mu2) (hk : k = false := by rfl) : EvD T X G mu (.IfExp c a b pos) r mu2 := by subst hk; exact ev_ifF hc hb
theorem sifT (hc : EvT T X G mu c k mu1) (ha : SDs T X W G mu1 sa o) (hk : k = true := by rfl) : SD T X W G mu (.If c sa sb pos) o := by subst hk; exact sd_ifT hc ha
theorem sifF (hc : EvT T X G mu c k mu1) (hb : SDs T X W G mu1 sb o) (hk : k = false := by rfl) : SD T X W G mu (.If c sa sb pos) o := by subst hk; exact sd_ifF hc hb
theorem sif0 (hc : EvT T X G mu c k mu1) (hk : k = false := by rfl) : SD T X W G mu (.If c sa [] pos) (.nx G mu1) := by subst hk; exact sd_if0 hc
/-- another name of the result -/
theorem as (h : EvD T X G mu e r mu1) (e1 : r = r' := by rfl) : EvD T X G mu e r' mu1 := e1 ▸ h
theorem asB (h : EvD T X G mu e (.dat (.bl k)) mu1) (e1 : k = k') : EvD T X G mu e (.dat (.bl k')) mu1 := e1 ▸ h
theorem asT (h : EvT T X G mu e k mu1) (e1 : k = k') : EvT T X G mu e k' mu1 := e1 ▸ h
theorem asD (h : EvD T X G mu e (.dat d) mu1) (e1 : d = d') : EvD T X G mu e (.dat d') mu1 := e1 ▸ h
theorem worF (h : EvT T X G mu a k mu1) (h2 : EvW T X G mu1 (.BoolOp .Or (b :: rest) pos) k' mu2) (hk : k = false := by rfl) : EvW T X G mu (.BoolOp .Or (a :: b :: rest) pos) k' mu2 := by subst hk; exact ew_orF h h2
theorem worT (h : EvT T X G mu a k mu1) (hk : k = true := by rfl) : EvW T X G mu (.BoolOp .Or (a :: b :: rest) pos) true mu1 := by subst hk; exact ew_orT h
theorem wandT (h : EvT T X G mu a k mu1) (h2 : EvW T X G mu1 (.BoolOp .And (b :: rest) pos) k' mu2) (hk : k = true := by rfl) : EvW T X G mu (.BoolOp .And (a :: b :: rest) pos) k' mu2 := by subst hk; exact ew_andT h h2
theorem wandF (h : EvT T X G mu a k mu1) (hk : k = false := by rfl) : EvW T X G mu (.BoolOp .And (a :: b :: rest) pos) false mu1 := by subst hk; exact ew_andF h
/-! ### forgetting cells -/
theorem Wk.nil : Wk [] [] := ⟨rfl, fun i c h => by simp at h⟩
theorem Wk.same {c : Cell} {G G' : List Cell} (h : Wk G' G) : Wk (c :: G') (c :: G) := ⟨by rw [List.length_cons, List.length_cons, h.1], fun i d hd => by
  cases i with
  | zero => exact .inr hd
  | succ i => exact h.2 i d hd⟩
theorem Wk.no {c : Cell} {G G' : List Cell} (h : Wk G' G) : Wk (.no :: G') (c :: G) := ⟨by rw [List.length_cons, List.length_cons, h.1], fun i d hd => by
  cases i with
  | zero => exact .inl (Option.some.inj hd).symm
  | succ i => exact h.2 i d hd⟩
/-- a for whose turns all come back to the same -/
theorem for_same {tg : Expr} {body : List Stmt} {ds : List Dt} (h : ∀ d ∈ ds, ∃ (G1 : List Cell) (ix : List Nat) (G2 : List Cell), PG X tg (rdG X.K T G mu d G1 ix) ∧ SDs T X W G1 mu body (.nx G2 mu) ∧ Wk G G2) : ForTo T X W tg body ds G mu (.nx G mu) := by
  induction ds with
  | nil => exact .nil
  | cons d ds ih =>
    obtain ⟨G1, ix, G2, h1, h2, h3⟩ := h d List.mem_cons_self
    exact .next h1 (ss_weak h2 h3) (ih fun x hx => h x (List.mem_cons_of_mem _ hx))
/-- a generator expression all of whose elements are k -/
theorem gx_same {N : List Str} {scope : Scope} {vs : List Nat} {tg elt : Expr} {ds : List Dt} (h : ∀ d ∈ ds, ∃ (G' : List Cell) (ix : List Nat), GxAll X N scope (fun Y => PG Y tg (rdG X.K T G mu d G' ix)) ∧ (∀ j ∈ ix, j ∈ vs) ∧ wipeC G' vs = G ∧ GxAll X N scope (fun Y => PE Y elt (rd X.K T G' mu (.dat (.bl k)) mu))) :
    GxTo T X N scope vs k G tg elt ds mu k mu := by
  induction ds with
  | nil => exact .nil
  | cons d ds ih =>
    obtain ⟨G', ix, h1, h2, h3, h4⟩ := h d List.mem_cons_self
    exact .go h1 h2 h3 h4 (ih fun x hx => h x (List.mem_cons_of_mem _ hx))
theorem room_gx {n : Nat} {A : Around} {N : List Str} {s : Shared} {H : Hp} {scope : Scope} {code : Value} {fp : List Addr} (h : Room (n + 1) A) : Room n (gxCx X A.in1.in1 N s H scope code fp).A :=
  ⟨h.hd, by have := h.dp; show A.depth + 1 + 3 * n + 5 < _; omega, by have := h.un; show A.units + 1 + 1 + 3 + 16 * n + 200 < _; omega⟩
end
theorem capInj_of {cap : List (Option Nat)} (h : (List.range cap.length).all (fun i => (List.range cap.length).all fun j => (match cap[i]?, cap[j]? with | some (some a), some (some b) => decide (a = b → i = j) | _, _ => true)) = true) : CapInj cap := by
  intro i i' j h1 h2
  have a1 := (List.getElem?_eq_some_iff.mp h1).1
  have a2 := (List.getElem?_eq_some_iff.mp h2).1
  have q := List.all_eq_true.mp (List.all_eq_true.mp h i (List.mem_range.mpr a1)) i' (List.mem_range.mpr a2)
  rw [h1, h2] at q
  exact (of_decide_eq_true q) rfl
theorem cut_from {ds : List Dt} {n : Nat} (hn : n ≤ ds.length) : cutD ds (some n) none = ds.drop n := by
  unfold cutD
  rw [HT.sIx_nat, HT.sIx_none, Nat.min_eq_left hn, List.take_of_length_le]
  rw [List.length_drop]
  exact Nat.le_refl _
theorem cut_to {ds : List Dt} {n : Nat} (hn : n ≤ ds.length) : cutD ds none (some n) = ds.take n := by
  unfold cutD
  rw [HT.sIx_nat, HT.sIx_none, Nat.min_eq_left hn, List.drop_zero, Nat.sub_zero]
end Dl

set_option Elab.async false
set_option linter.all false
set_option maxRecDepth 100000
set_option maxHeartbeats 4000000
/-! DlTest: comparisons as tests. -/
namespace Dl
open PySem PySem.Spec PyProof.Rows L2
section
variable {T : Tbs} {X : Cx} {G : List Cell} {mu mu1 mu2 mu3 : List Dt} {r r1 r2 r3 : Res} {a b c e : Expr} {pos p2 : Pos} {d d1 d2 : Dt} {k : Bool} {i j : Int}
theorem et_cmp {op : CmpOp} {rr : R2} (ho : OpR X (compareOp op) rr) (h : Op2 X.K T G mu2 r1 r2 (.dat (.bl k)) rr) (hm : behindInMarks op b = false) (ha : EvD T X G mu a r1 mu1) (hb : EvD T X G mu1 b r2 mu2) : EvT T X G mu (.Compare a [op] [b] pos) k mu2 := by
  refine pt_imp (pt_cmpR ho ha hb hm) fun sg H Q ⟨B, F, fi, e, q⟩ => ?_
  refine rd_op h sg H _ ⟨B, F, fi, e, fun v F' fi' H' s p e' hv => ?_⟩
  cases hv
  exact ⟨k, rfl, q F' fi' H' s p e'⟩
theorem et_chain {o1 o2 : CmpOp} {g1 g2 : Int → Int → Bool} {i j l : Int} (h1 : OpR X (compareOp o1) (rI0 fun i j => .bl (g1 i j))) (h2 : OpR X (compareOp o2) (rI0 fun i j => .bl (g2 i j))) (ha : EvD T X G mu a r1 mu) (hb : EvD T X G mu b r2 mu) (hc : EvD T X G mu c r3 mu)
    (l1 : look G r1 = some (.int i) := by rfl) (l2 : look G r2 = some (.int j) := by rfl) (l3 : look G r3 = some (.int l) := by rfl) (hm : lastMarks [o1, o2] [b, c] = false := by with_unfolding_all rfl) : EvT T X G mu (.Compare a [o1, o2] [b, c] pos) (g1 i j && g2 j l) mu := by
  refine pt_imp (pt_chain h1 h2 ha hb hc (hm := hm)) fun sg H Q ⟨B, F, fi, e, q⟩ => ?_
  refine ⟨B, F, fi, e, fun v F1 fi1 H1 s1 p1 e1 m1 => ⟨B, F1, fi1, e1, fun u F2 fi2 H2 s2 p2 e2 m2 => ?_⟩⟩
  refine ⟨i, j, (e1.view m1 l1).int, (e2.view m2 l2).int, g1 i j, rfl, ?_⟩
  cases z : g1 i j with
  | true =>
    refine iteT ⟨B, F2, fi2, e2, fun w F3 fi3 H3 s3 p3 e3 m3 => ⟨j, l, (e2.view m2 l2).int, (e3.view m3 l3).int, g2 j l, rfl, ?_⟩⟩
    rw [z, Bool.true_and] at q
    exact q F3 fi3 H3 ((s1.trans s2).trans s3) ((p1.trans p2).trans p3) e3
  | false =>
    rw [z, Bool.false_and] at q
    exact iteF ⟨false, rfl, q F2 fi2 H2 (s1.trans s2) (p1.trans p2) e2⟩
theorem et_lt (ha : EvD T X G mu a r1 mu1) (hb : EvD T X G mu1 b r2 mu2) (l1 : look G r1 = some (.int i) := by rfl) (l2 : look G r2 = some (.int j) := by rfl) : EvT T X G mu (.Compare a [.Lt] [b] pos) ((decide (i < j))) mu2 :=
  et_cmp op_lt (op2_int0 l1 l2 fun _ _ => .bl _) (nomark _) ha hb
theorem et_le (ha : EvD T X G mu a r1 mu1) (hb : EvD T X G mu1 b r2 mu2) (l1 : look G r1 = some (.int i) := by rfl) (l2 : look G r2 = some (.int j) := by rfl) : EvT T X G mu (.Compare a [.LtE] [b] pos) ((decide (i ≤ j))) mu2 :=
  et_cmp op_le (op2_int0 l1 l2 fun _ _ => .bl _) (nomark _) ha hb
theorem et_gt (ha : EvD T X G mu a r1 mu1) (hb : EvD T X G mu1 b r2 mu2) (l1 : look G r1 = some (.int i) := by rfl) (l2 : look G r2 = some (.int j) := by rfl) : EvT T X G mu (.Compare a [.Gt] [b] pos) ((decide (j < i))) mu2 :=
  et_cmp op_gt (op2_int0 l1 l2 fun _ _ => .bl _) (nomark _) ha hb
theorem et_ge (ha : EvD T X G mu a r1 mu1) (hb : EvD T X G mu1 b r2 mu2) (l1 : look G r1 = some (.int i) := by rfl) (l2 : look G r2 = some (.int j) := by rfl) : EvT T X G mu (.Compare a [.GtE] [b] pos) ((decide (j ≤ i))) mu2 :=
  et_cmp op_ge (op2_int0 l1 l2 fun _ _ => .bl _) (nomark _) ha hb
theorem et_eqI (ha : EvD T X G mu a r1 mu1) (hb : EvD T X G mu1 b r2 mu2) (l1 : look G r1 = some (.int i) := by rfl) (l2 : look G r2 = some (.int j) := by rfl) : EvT T X G mu (.Compare a [.Eq] [b] pos) ((decide (i = j))) mu2 :=
  et_cmp op_eq (op2_val l1 l2 fun F fi H v u Q _ h1 h2 q => by
    rw [h1.int, h2.int]
    refine ⟨rfl, ?_⟩
    have e : decide (V.int i = V.int j) = decide (i = j) := by rw [dec_int, Bool.beq_eq_decide_eq]
    rw [e]
    exact q _ (.bl _)) (nomark _) ha hb
theorem et_neI (ha : EvD T X G mu a r1 mu1) (hb : EvD T X G mu1 b r2 mu2) (l1 : look G r1 = some (.int i) := by rfl) (l2 : look G r2 = some (.int j) := by rfl) : EvT T X G mu (.Compare a [.NotEq] [b] pos) ((!decide (i = j))) mu2 :=
  et_cmp op_ne (op2_val l1 l2 fun F fi H v u Q _ h1 h2 q => by
    rw [h1.int, h2.int]
    refine ⟨rfl, ?_⟩
    have e : decide (V.int i = V.int j) = decide (i = j) := by rw [dec_int, Bool.beq_eq_decide_eq]
    rw [e]
    exact q _ (.bl _)) (nomark _) ha hb
theorem et_eqS {x y : Str} (ha : EvD T X G mu a r1 mu1) (hb : EvD T X G mu1 b r2 mu2) (l1 : look G r1 = some (.str x) := by rfl) (l2 : look G r2 = some (.str y) := by rfl) : EvT T X G mu (.Compare a [.Eq] [b] pos) ((decide (x = y))) mu2 :=
  et_cmp op_eq (op2_val l1 l2 fun F fi H v u Q _ h1 h2 q => by
    rw [h1.str, h2.str]
    refine ⟨rfl, ?_⟩
    have e : decide (V.str x = V.str y) = decide (x = y) := by rw [dec_str, Bool.beq_eq_decide_eq]
    rw [e]
    exact q _ (.bl _)) (nomark _) ha hb
theorem et_eq (hu : X.A.units + 64 < cLine) (ha : EvD T X G mu a r1 mu1) (hb : EvD T X G mu1 b r2 mu2) (hk : PyData.eqv d1.py d2.py = k) (s1 : d1.dep 60 = true) (s2 : d2.dep 60 = true) (l1 : look G r1 = some d1 := by rfl) (l2 : look G r2 = some d2 := by rfl) :
    EvT T X G mu (.Compare a [.Eq] [b] pos) (k) mu2 :=
  et_cmp (op_eqD hu) (op2_val l1 l2 fun F fi H v u Q s h1 h2 q => ⟨d1.py, d2.py, h1.dp s s1, h2.dp s s2, Dt.shaped s1, Dt.shaped s2, by rw [hk]; exact q _ (.bl _)⟩) (nomark _) ha hb
theorem et_ne (hu : X.A.units + 64 < cLine) (ha : EvD T X G mu a r1 mu1) (hb : EvD T X G mu1 b r2 mu2) (hk : PyData.eqv d1.py d2.py = k) (s1 : d1.dep 60 = true) (s2 : d2.dep 60 = true) (l1 : look G r1 = some d1 := by rfl) (l2 : look G r2 = some d2 := by rfl) :
    EvT T X G mu (.Compare a [.NotEq] [b] pos) ((!k)) mu2 :=
  et_cmp (op_neD hu) (op2_val l1 l2 fun F fi H v u Q s h1 h2 q => ⟨d1.py, d2.py, h1.dp s s1, h2.dp s s2, Dt.shaped s1, Dt.shaped s2, by rw [hk]; exact q _ (.bl _)⟩) (nomark _) ha hb
theorem et_in (hu : X.A.units + 65 < cLine) {ds : List Dt} (ha : EvD T X G mu a r1 mu1) (hb : EvD T X G mu1 b r2 mu2) (hk : (ds.any fun z => PyData.eqv z.py d1.py) = k) (s1 : d1.dep 60 = true) (s2 : (Dt.lst ds).dep 60 = true) (l1 : look G r1 = some d1 := by rfl) (l2 : look G r2 = some (.lst ds) := by rfl)
    (hm : behindInMarks .In b = false := by rfl) : EvT T X G mu (.Compare a [.In] [b] pos) (k) mu2 :=
  et_cmp (op_inD hu) (op2_val l1 l2 fun F fi H v u Q s h1 h2 q => ⟨d1.py, ds.map Dt.py, h1.dp s s1, by rw [← Dt.pyAll_map]; exact h2.dp s s2, Dt.shaped s1, by rw [← Dt.pyAll_map]; exact Dt.shaped s2, by
    rw [List.any_map]
    have e : (ds.any ((fun z => PyData.eqv z d1.py) ∘ Dt.py)) = k := hk
    rw [e]
    exact q _ (.bl _)⟩) hm ha hb
theorem et_notin (hu : X.A.units + 65 < cLine) {ds : List Dt} (ha : EvD T X G mu a r1 mu1) (hb : EvD T X G mu1 b r2 mu2) (hk : (ds.any fun z => PyData.eqv z.py d1.py) = k) (s1 : d1.dep 60 = true) (s2 : (Dt.lst ds).dep 60 = true) (l1 : look G r1 = some d1 := by rfl) (l2 : look G r2 = some (.lst ds) := by rfl)
    (hm : behindInMarks .NotIn b = false := by rfl) : EvT T X G mu (.Compare a [.NotIn] [b] pos) ((!k)) mu2 :=
  et_cmp (op_notInD hu) (op2_val l1 l2 fun F fi H v u Q s h1 h2 q => ⟨d1.py, ds.map Dt.py, h1.dp s s1, by rw [← Dt.pyAll_map]; exact h2.dp s s2, Dt.shaped s1, by rw [← Dt.pyAll_map]; exact Dt.shaped s2, by
    rw [List.any_map]
    have e : (ds.any ((fun z => PyData.eqv z d1.py) ∘ Dt.py)) = k := hk
    rw [e]
    exact q _ (.bl _)⟩) hm ha hb
theorem et_isnon {j} (ha : EvD T X G mu a r1 mu1) (l1 : look G r1 = some d := by rfl) (ho : ∀ z, d ≠ .obj z := by intro z h; cases h) : EvT T X G mu (.Compare a [.Is] [.Constant .none j p2] pos) (d.isNon) mu1 :=
  et_cmp op_isN (r2 := .dat .non) (op2_val l1 rfl fun F fi H v u Q s h1 h2 q => ⟨h2.non, by rw [h1.isNon ho]; exact q _ (.bl _)⟩) (nomark _) ha ev_non
theorem et_notnon {j} (ha : EvD T X G mu a r1 mu1) (l1 : look G r1 = some d := by rfl) (ho : ∀ z, d ≠ .obj z := by intro z h; cases h) : EvT T X G mu (.Compare a [.IsNot] [.Constant .none j p2] pos) ((!d.isNon)) mu1 :=
  et_cmp op_notN (r2 := .dat .non) (op2_val l1 rfl fun F fi H v u Q s h1 h2 q => ⟨h2.non, by rw [h1.isNon ho]; exact q _ (.bl _)⟩) (nomark _) ha ev_non

end
end Dl

set_option Elab.async false
set_option linter.all false
set_option maxRecDepth 100000
set_option maxHeartbeats 4000000
/-! DlLoop: comprehensions by functions; checks of names. -/
namespace Dl
open PySem PySem.Spec PyProof.Rows L2
def blkB (N : List Str) (sc scope : Scope) (own : List (Str × Nat)) : Bool :=
  decide (scope.kind = .function) && (scope.names.all fun y => decide (scope.names.lookup y.1 = some y.2)) && (own.all fun p => decide (N[p.2]? = some p.1)) &&
    (scope.names.all fun y => !decide (y.2 = .free) || decide (sc.names.lookup y.1 = some .cell) || decide (sc.names.lookup y.1 = some .free)) &&
    (scope.names.all fun y => !(decide (y.2 = .local) || decide (y.2 = .cell)) || decide (y.1 ∈ own.map (·.1)) || decide (y.1 ∉ N))
theorem blk_by {N : List Str} {sc scope : Scope} {own : List (Str × Nat)} (h : blkB N sc scope own = true) : BlkOk N sc scope own := by
  unfold blkB at h
  simp only [Bool.and_eq_true, Bool.or_eq_true, Bool.not_eq_true', decide_eq_true_eq, decide_eq_false_iff_not, List.all_eq_true, Bool.or_eq_false_iff] at h
  obtain ⟨⟨⟨⟨h1, h2⟩, h3⟩, h4⟩, h5⟩ := h
  refine ⟨h1, h2, h3, fun y hy e => ?_, fun y hy e => ?_⟩
  · rcases h4 y hy with (z | z) | z
    · exact absurd e z
    · exact .inl z
    · exact .inr z
  · rcases h5 y hy with (z | z) | z
    · rcases e with e | e
      · exact absurd e z.1
      · exact absurd e z.2
    · exact .inl z
    · exact .inr z
section
variable {T : Tbs} {X : Cx} {G : List Cell} {mu : List Dt} {tg tg1 iter1 elt : Expr} {ifs ifs1 : List Expr} {scope : Scope} {vs vs1 : List Nat} {ds : List Dt}
theorem comp_filt {p : Dt → Bool} {f : Dt → Dt} (h : ∀ d ∈ ds, ∃ (G' : List Cell) (ix : List Nat), BlkAll X scope (fun Y => PG Y tg (rdG X.K T G mu d G' ix)) ∧ (∀ j ∈ ix, j ∈ vs) ∧ wipeC G' vs = G ∧ BlkAll X scope (fun Y => PTs Y ifs (rdT X.K T G' mu (p d) mu)) ∧
    (p d = true → BlkAll X scope (fun Y => PE Y elt (rd X.K T G' mu (.dat (f d)) mu)))) : CompTo T X scope vs G tg elt ifs ds mu ((ds.filter p).map f) mu := by
  induction ds with
  | nil => exact .nil
  | cons d ds ih =>
    obtain ⟨G', ix, h1, h2, h3, h4, h5⟩ := h d List.mem_cons_self
    have r := ih fun x hx => h x (List.mem_cons_of_mem _ hx)
    cases q : p d with
    | true =>
      rw [q] at h4
      rw [List.filter_cons_of_pos q, List.map_cons]
      exact .take h1 h2 h3 h4 (h5 q) r
    | false =>
      rw [q] at h4
      rw [List.filter_cons_of_neg (by rw [q]; exact Bool.false_ne_true)]
      exact .skip h1 h2 h3 h4 r
theorem comp_all {f : Dt → Dt} (h : ∀ d ∈ ds, ∃ (G' : List Cell) (ix : List Nat), BlkAll X scope (fun Y => PG Y tg (rdG X.K T G mu d G' ix)) ∧ (∀ j ∈ ix, j ∈ vs) ∧ wipeC G' vs = G ∧ BlkAll X scope (fun Y => PE Y elt (rd X.K T G' mu (.dat (f d)) mu))) :
    CompTo T X scope vs G tg elt [] ds mu (ds.map f) mu := by
  have r := comp_filt (T := T) (X := X) (G := G) (mu := mu) (tg := tg) (elt := elt) (ifs := []) (scope := scope) (vs := vs) (ds := ds) (p := fun _ => true) (f := f) fun d hd => by
    obtain ⟨G', ix, h1, h2, h3, h4⟩ := h d hd
    exact ⟨G', ix, h1, h2, h3, fun s H C cl fp => ets_nil, fun _ => h4⟩
  rwa [List.filter_eq_self.mpr (fun _ _ => rfl)] at r
theorem comp2_all {g : Dt → List Dt} (h : ∀ d ∈ ds, ∃ (G' : List Cell) (ix : List Nat) (ds1 : List Dt), BlkAll X scope (fun Y => PG Y tg (rdG X.K T G mu d G' ix)) ∧ (∀ j ∈ ix, j ∈ vs) ∧ wipeC G' vs = G ∧ BlkAll X scope (fun Y => PI Y tg1 iter1 (rdI X.K T G' mu ds1 mu)) ∧
    (∀ j ∈ vs, ∀ m, G'[j]? ≠ some (.own m)) ∧ CompTo T X scope vs1 (wipeC G' vs1) tg1 elt ifs1 ds1 mu (g d) mu) : CompTo2 T X scope vs vs1 G tg tg1 iter1 elt [] ifs1 ds mu (ds.flatMap g) mu := by
  induction ds with
  | nil => exact .nil
  | cons d ds ih =>
    obtain ⟨G', ix, ds1, h1, h2, h3, h4, h5, h6⟩ := h d List.mem_cons_self
    rw [List.flatMap_cons]
    exact .take h1 h2 h3 (fun s H C cl fp => ets_nil) h4 h5 h6 (ih fun x hx => h x (List.mem_cons_of_mem _ hx))
theorem comp_id (h : ∀ d ∈ ds, ∃ (G' : List Cell) (ix : List Nat), BlkAll X scope (fun Y => PG Y tg (rdG X.K T G mu d G' ix)) ∧ (∀ j ∈ ix, j ∈ vs) ∧ wipeC G' vs = G ∧ BlkAll X scope (fun Y => PE Y elt (rd X.K T G' mu (.dat d) mu))) :
    CompTo T X scope vs G tg elt [] ds mu ds mu := by
  have r := comp_all (f := fun d => d) h
  rwa [List.map_id'] at r
theorem comp_filtA {α : Type} {l : List α} (t u : α → Dt) {q : α → Bool} (h : ∀ a ∈ l, ∃ (G' : List Cell) (ix : List Nat), BlkAll X scope (fun Y => PG Y tg (rdG X.K T G mu (t a) G' ix)) ∧ (∀ j ∈ ix, j ∈ vs) ∧ wipeC G' vs = G ∧ BlkAll X scope (fun Y => PTs Y ifs (rdT X.K T G' mu (q a) mu)) ∧
    (q a = true → BlkAll X scope (fun Y => PE Y elt (rd X.K T G' mu (.dat (u a)) mu)))) : CompTo T X scope vs G tg elt ifs (l.map t) mu ((l.filter q).map u) mu := by
  induction l with
  | nil => exact .nil
  | cons a l ih =>
    obtain ⟨G', ix, h1, h2, h3, h4, h5⟩ := h a List.mem_cons_self
    have r := ih fun x hx => h x (List.mem_cons_of_mem _ hx)
    rw [List.map_cons]
    cases z : q a with
    | true =>
      rw [z] at h4
      rw [List.filter_cons_of_pos z, List.map_cons]
      exact .take h1 h2 h3 h4 (h5 z) r
    | false =>
      rw [z] at h4
      rw [List.filter_cons_of_neg (by rw [z]; exact Bool.false_ne_true)]
      exact .skip h1 h2 h3 h4 r
theorem comp_allA {α : Type} {l : List α} (t u : α → Dt) (h : ∀ a ∈ l, ∃ (G' : List Cell) (ix : List Nat), BlkAll X scope (fun Y => PG Y tg (rdG X.K T G mu (t a) G' ix)) ∧ (∀ j ∈ ix, j ∈ vs) ∧ wipeC G' vs = G ∧ BlkAll X scope (fun Y => PE Y elt (rd X.K T G' mu (.dat (u a)) mu))) :
    CompTo T X scope vs G tg elt [] (l.map t) mu (l.map u) mu := by
  induction l with
  | nil => exact .nil
  | cons a l ih =>
    obtain ⟨G', ix, h1, h2, h3, h4⟩ := h a List.mem_cons_self
    exact .take h1 h2 h3 (fun s H C cl fp => ets_nil) h4 (ih fun x hx => h x (List.mem_cons_of_mem _ hx))
theorem noown {vs : List Nat} (h : (vs.all fun j => match G[j]? with | some (.own _) => false | _ => true) = true) : ∀ j ∈ vs, ∀ m, G[j]? ≠ some (.own m) := fun j hj m e => by
  have q := List.all_eq_true.mp h j hj
  rw [e] at q
  cases q
end
section
variable {T : Tbs} {X : Cx} {W : WX} {tg : Expr} {body : List Stmt} {ds : List Dt}
/-- a for as a fold: C, M: the cells, the shared objects by the state; P: what is true of it -/
theorem for_inv {α : Type} (C : α → List Cell) (M : α → List Dt) (f : α → Dt → α) (P : α → Prop) : ∀ (ds : List Dt) (a : α), P a → (∀ b d, P b → d ∈ ds → P (f b d) ∧ ∃ (G1 : List Cell) (ix : List Nat) (G2 : List Cell), PG X tg (rdG X.K T (C b) (M b) d G1 ix) ∧ SDs T X W G1 (M b) body (.nx G2 (M (f b d))) ∧ Wk (C (f b d)) G2) →
    ForTo T X W tg body ds (C a) (M a) (.nx (C (ds.foldl f a)) (M (ds.foldl f a)))
  | [], a, _, _ => .nil
  | d :: ds, a, h0, h => by
    obtain ⟨h1, G1, ix, G2, h2, h3, h4⟩ := h a d h0 List.mem_cons_self
    exact .next h2 (ss_weak h3 h4) (for_inv C M f P ds (f a d) h1 fun b x hb hx => h b x hb (List.mem_cons_of_mem _ hx))
theorem fold_P {α : Type} {f : α → Dt → α} {P : α → Prop} : ∀ {ds : List Dt} {a : α}, P a → (∀ b d, P b → d ∈ ds → P (f b d)) → P (ds.foldl f a)
  | [], _, h, _ => h
  | d :: ds, a, h, k => fold_P (ds := ds) (k a d h List.mem_cons_self) fun b x hb hx => k b x hb (List.mem_cons_of_mem _ hx)
end
theorem enD_mem : ∀ {ds : List Dt} {k : Nat} {d : Dt}, d ∈ enD k ds → ∃ (i : Nat) (c : Dt), c ∈ ds ∧ d = .tup [.int (i : Int), c]
  | [], _, _, h => by simp [enD] at h
  | c :: ds, k, d, h => by
    have h : d ∈ Dt.tup [.int (k : Int), c] :: enD (k + 1) ds := h
    rcases List.mem_cons.mp h with e | e
    · exact ⟨k, c, List.mem_cons_self, e⟩
    · obtain ⟨i, x, h1, h2⟩ := enD_mem e
      exact ⟨i, x, List.mem_cons_of_mem _ h1, h2⟩
theorem fallen {T : Tbs} {X : Cx} {W : WX} {G0 G : List Cell} {mu0 mu : List Dt} {body : List Stmt} (h : SDs T X W G0 mu0 body (.nx G mu)) : ∃ o', EndF o' (.ret (.dat .non) mu) ∧ SDs T X W G0 mu0 body o' := ⟨_, .fall, h⟩
end Dl

set_option Elab.async false
set_option linter.all false
set_option maxRecDepth 100000
set_option maxHeartbeats 4000000
/-! DlText: texts; an own list given up. -/
namespace Dl
open PySem PySem.Spec PyProof.Rows L2
theorem log_small {i : Int} (h0 : 0 ≤ i) (h : i < 1000000) : i.natAbs.log2 < 1920 := PyProof.Rows.shown (N := 1000000) (by omega) h (by decide +kernel)
theorem strI_len {i : Int} (h0 : 0 ≤ i) (h : i < 1000000) : (strI i).length ≤ 6 := PyProof.Rows.toString_length_le h0 (by decide) (k := 6) (by omega)
theorem join_len (sep : Str) (l : List Str) : (Txt.join sep l).length ≤ (l.map (·.length)).sum + l.length * sep.length := by
  show (Builtin.Str.glued sep l).length ≤ _
  rw [StrLaws.glued_eq_join]
  exact StrLaws.join_length_le sep l
theorem sum_le {l : List Str} {n : Nat} (h : ∀ x ∈ l, x.length ≤ n) : (l.map (·.length)).sum ≤ l.length * n := by
  induction l with
  | nil => simp
  | cons x l ih =>
    rw [List.map_cons, List.sum_cons, List.length_cons, Nat.succ_mul]
    have := h x List.mem_cons_self
    have := ih fun y hy => h y (List.mem_cons_of_mem _ hy)
    omega
section
variable {K : PySem.W.Frag} {T : Tbs} {B : Bs} {F : Hp} {fi : List Addr} {sg : L2.St} {H : Hp} {G : List Cell} {mu : List Dt} {m : Dt}
/-- a slot's own object is given up: from now on it stays -/
theorem DE.giveUp (e : DE K T B F fi sg H G mu) {i : Nat} (h : G[i]? = some (.own m)) : ∃ F', Sub F F' ∧ DE K T B F' fi sg H (G.set i (.val m)) mu := by
  obtain ⟨v, h1, h2, h3⟩ := e.out h
  obtain ⟨F', s, e2, h4⟩ := h2.freeze h3
  refine ⟨F', s, ?_⟩
  have e3 := e2.setV (i := i) h4
  have hs : sg.set i (some v) = sg := by
    refine List.ext_getElem? fun j => ?_
    by_cases hj : i = j
    · subst hj
      rw [List.getElem?_set_self (List.getElem?_eq_some_iff.mp h1).1, h1]
    · rw [List.getElem?_set_ne hj]
  rw [hs, List.set_set] at e3
  exact e3
end
section
variable {T : Tbs} {X : Cx} {W : WX} {G : List Cell} {mu : List Dt} {rest : List Stmt} {o : SOut} {m : Dt}
theorem ss_giveUp (i : Nat) (hG : G[i]? = some (.own m)) (h : SDs T X W (G.set i (.val m)) mu rest o) : SDs T X W G mu rest o :=
  pss_imp h fun D sg H ⟨B, F, fi, e, q⟩ => by
    obtain ⟨F', s, e'⟩ := e.giveUp hG
    exact ⟨B, F', fi, e', post_next s (List.prefix_refl _) q⟩
theorem sd_giveUp {st : Stmt} (i : Nat) (hG : G[i]? = some (.own m)) (h : SD T X W (G.set i (.val m)) mu st o) : SD T X W G mu st o :=
  ps_imp h fun D sg H ⟨B, F, fi, e, q⟩ => by
    obtain ⟨F', s, e'⟩ := e.giveUp hG
    exact ⟨B, F', fi, e', post_next s (List.prefix_refl _) q⟩
end
theorem dep_ints (n : Nat) (l : List Int) : (Dt.lst (l.map .int)).dep (n + 1) = true := by
  show (l.map Dt.int).all (Dt.dep n) = true
  rw [List.all_eq_true]
  intro d hd
  obtain ⟨x, _, rfl⟩ := List.mem_map.mp hd
  cases n <;> rfl
theorem dep_intsT (n : Nat) (l : List Int) : (Dt.tup (l.map .int)).dep (n + 1) = true := by
  show (l.map Dt.int).all (Dt.dep n) = true
  rw [List.all_eq_true]
  intro d hd
  obtain ⟨x, _, rfl⟩ := List.mem_map.mp hd
  cases n <;> rfl
section
variable {T : Tbs} {X : Cx} {W : WX} {tg : Expr} {body : List Stmt}
/-- a for as a fold; P i: what is true behind i turns -/
theorem for_invN {α : Type} (C : α → List Cell) (M : α → List Dt) (f : α → Dt → α) (P : Nat → α → Prop) (ds0 : List Dt) (h : ∀ (i : Nat) b d, ds0[i]? = some d → P i b → P (i + 1) (f b d) ∧ ∃ (G1 : List Cell) (ix : List Nat) (G2 : List Cell), PG X tg (rdG X.K T (C b) (M b) d G1 ix) ∧ SDs T X W G1 (M b) body (.nx G2 (M (f b d))) ∧ Wk (C (f b d)) G2) :
    ∀ (ds : List Dt) (k : Nat) (a : α), ds0.drop k = ds → P k a → ForTo T X W tg body ds (C a) (M a) (.nx (C (ds.foldl f a)) (M (ds.foldl f a)))
  | [], _, a, _, _ => .nil
  | d :: ds, k, a, e, h0 => by
    have hk : ds0[k]? = some d := by
      rw [← List.head?_drop, e] <;> rfl
    obtain ⟨h1, G1, ix, G2, h2, h3, h4⟩ := h k a d hk h0
    refine .next h2 (ss_weak h3 h4) (for_invN C M f P ds0 h ds (k + 1) (f a d) ?_ h1)
    rw [← List.drop_drop, e] <;> rfl
theorem for_N {α : Type} (C : α → List Cell) (M : α → List Dt) (f : α → Dt → α) (P : Nat → α → Prop) (ds : List Dt) (a : α) (h0 : P 0 a) (h : ∀ (i : Nat) b d, ds[i]? = some d → P i b → P (i + 1) (f b d) ∧ ∃ (G1 : List Cell) (ix : List Nat) (G2 : List Cell), PG X tg (rdG X.K T (C b) (M b) d G1 ix) ∧ SDs T X W G1 (M b) body (.nx G2 (M (f b d))) ∧ Wk (C (f b d)) G2) :
    ForTo T X W tg body ds (C a) (M a) (.nx (C (ds.foldl f a)) (M (ds.foldl f a))) := for_invN C M f P ds h ds 0 a rfl h0
theorem fold_N {α : Type} {f : α → Dt → α} (P : Nat → α → Prop) {ds : List Dt} {a : α} (h0 : P 0 a) (h : ∀ (i : Nat) b d, ds[i]? = some d → P i b → P (i + 1) (f b d)) : P ds.length (ds.foldl f a) := by
  have k : ∀ (l : List Dt) (j : Nat) (b : α), ds.drop j = l → j + l.length = ds.length → P j b → P ds.length (l.foldl f b) := by
    intro l
    induction l with
    | nil =>
      intro j b _ hj hb
      have : j = ds.length := by simpa using hj
      rw [← this]
      exact hb
    | cons d l ih =>
      intro j b e hj hb
      have hk : ds[j]? = some d := by
        rw [← List.head?_drop, e] <;> rfl
      exact ih (j + 1) (f b d) (by rw [← List.drop_drop, e] <;> rfl) (by rw [List.length_cons] at hj; omega) (h j b d hk hb)
  exact k ds 0 a rfl (by omega) h0
end
theorem rngD_get {lo : Int} {n i : Nat} {d : Dt} (h : (rngD lo n)[i]? = some d) : i < n ∧ d = .int (lo + (i : Int)) := by
  unfold rngD at h
  rw [List.getElem?_map] at h
  cases e : (List.range n)[i]? with
  | none => rw [e] at h; cases h
  | some j =>
    obtain ⟨h1, h2⟩ := List.getElem?_eq_some_iff.mp e
    rw [List.length_range] at h1
    rw [List.getElem_range] at h2
    rw [e] at h
    subst h2
    exact ⟨h1, (Option.some.inj h).symm⟩
theorem rngD_len {lo : Int} {n : Nat} : (rngD lo n).length = n := by
  unfold rngD
  rw [List.length_map, List.length_range]
theorem ei_as {T : Tbs} {X : Cx} {G : List Cell} {mu mu1 : List Dt} {tg e : Expr} {xs ys : List Dt} (h : EvI T X G mu tg e xs mu1) (e1 : xs = ys) : EvI T X G mu tg e ys mu1 := e1 ▸ h
theorem atI_nat {α : Type} {l : List α} {i : Int} {n : Nat} {x : α} (h : i = (n : Int)) (e : l[n]? = some x) : atI l i = some x := by
  have hl := (List.getElem?_eq_some_iff.mp e).1
  unfold atI
  have e1 : ixN l.length i = some n := by
    unfold ixN
    rw [if_pos (by omega), if_pos (by omega)]
    congr 1
    omega
  rw [e1]
  exact e
/-! ### comprehensions that change a state -/
def runF {α β : Type} (step : α → β → Bool × β) : List α → β → List α × β
  | [], b => ([], b)
  | a :: l, b => (if (step a b).1 then a :: (runF step l (step a b).2).1 else (runF step l (step a b).2).1, (runF step l (step a b).2).2)
def runG {α β γ : Type} (step : α → β → γ × β) : List α → β → List γ × β
  | [], b => ([], b)
  | a :: l, b => ((step a b).1 :: (runG step l (step a b).2).1, (runG step l (step a b).2).2)
theorem runF_P {α β : Type} {step : α → β → Bool × β} {P : β → Prop} : ∀ {l : List α} {b : β}, P b → (∀ a b, P b → P (step a b).2) → P (runF step l b).2
  | [], _, h, _ => h
  | a :: l, b, h, k => runF_P (l := l) (k a b h) k
theorem runF_sub {α β : Type} {step : α → β → Bool × β} : ∀ {l : List α} {b : β}, (runF step l b).1.Sublist l
  | [], _ => .slnil
  | a :: l, b => by
    have ih := runF_sub (step := step) (l := l) (b := (step a b).2)
    show (if (step a b).1 then a :: (runF step l (step a b).2).1 else (runF step l (step a b).2).1).Sublist (a :: l)
    split
    · exact ih.cons_cons a
    · exact ih.cons a
theorem runG_P {α β γ : Type} {step : α → β → γ × β} {P : β → Prop} : ∀ {l : List α} {b : β}, P b → (∀ a b, P b → P (step a b).2) → P (runG step l b).2
  | [], _, h, _ => h
  | a :: l, b, h, k => runG_P (l := l) (k a b h) k
theorem runG_len {α β γ : Type} {step : α → β → γ × β} : ∀ {l : List α} {b : β}, (runG step l b).1.length = l.length
  | [], _ => rfl
  | a :: l, b => congrArg Nat.succ (runG_len (l := l))
theorem runG_all {α β γ : Type} {step : α → β → γ × β} {P : β → Prop} {R : γ → Prop} : ∀ {l : List α} {b : β}, P b → (∀ a b, P b → P (step a b).2 ∧ R (step a b).1) → ∀ x ∈ (runG step l b).1, R x
  | [], _, _, _, x, hx => by simp [runG] at hx
  | a :: l, b, h, k, x, hx => by
    rcases List.mem_cons.mp (show x ∈ (step a b).1 :: (runG step l (step a b).2).1 from hx) with e | e
    · rw [e]
      exact (k a b h).2
    · exact runG_all (l := l) (k a b h).1 k x e
section
variable {T : Tbs} {X : Cx} {G : List Cell} {tg elt : Expr} {ifs : List Expr} {scope : Scope} {vs : List Nat}
theorem comp_runF {α β : Type} (t u : α → Dt) (M : β → List Dt) (step : α → β → Bool × β) (P : β → Prop) (h : ∀ a b, P b → P (step a b).2 ∧ ∃ (G' : List Cell) (ix : List Nat), BlkAll X scope (fun Y => PG Y tg (rdG X.K T G (M b) (t a) G' ix)) ∧ (∀ j ∈ ix, j ∈ vs) ∧ wipeC G' vs = G ∧
    BlkAll X scope (fun Y => PTs Y ifs (rdT X.K T G' (M b) (step a b).1 (M (step a b).2))) ∧ BlkAll X scope (fun Y => PE Y elt (rd X.K T G' (M (step a b).2) (.dat (u a)) (M (step a b).2)))) :
    ∀ (l : List α) (b : β), P b → CompTo T X scope vs G tg elt ifs (l.map t) (M b) ((runF step l b).1.map u) (M (runF step l b).2)
  | [], b, _ => .nil
  | a :: l, b, hb => by
    obtain ⟨hP, G', ix, h1, h2, h3, h4, h5⟩ := h a b hb
    have ih := comp_runF t u M step P h l (step a b).2 hP
    show CompTo T X scope vs G tg elt ifs (t a :: l.map t) (M b) ((if (step a b).1 then a :: (runF step l (step a b).2).1 else (runF step l (step a b).2).1).map u) (M (runF step l (step a b).2).2)
    cases z : (step a b).1 with
    | true =>
      rw [z] at h4
      rw [if_pos rfl, List.map_cons]
      exact .take h1 h2 h3 h4 h5 ih
    | false =>
      rw [z] at h4
      rw [if_neg Bool.false_ne_true]
      exact .skip h1 h2 h3 h4 ih
theorem comp_runG {α β γ : Type} (t : α → Dt) (u : γ → Dt) (M : β → List Dt) (step : α → β → γ × β) (P : β → Prop) (h : ∀ a b, P b → P (step a b).2 ∧ ∃ (G' : List Cell) (ix : List Nat), BlkAll X scope (fun Y => PG Y tg (rdG X.K T G (M b) (t a) G' ix)) ∧ (∀ j ∈ ix, j ∈ vs) ∧ wipeC G' vs = G ∧
    BlkAll X scope (fun Y => PE Y elt (rd X.K T G' (M b) (.dat (u (step a b).1)) (M (step a b).2)))) :
    ∀ (l : List α) (b : β), P b → CompTo T X scope vs G tg elt [] (l.map t) (M b) ((runG step l b).1.map u) (M (runG step l b).2)
  | [], b, _ => .nil
  | a :: l, b, hb => by
    obtain ⟨hP, G', ix, h1, h2, h3, h5⟩ := h a b hb
    exact .take h1 h2 h3 (fun s H C cl fp => ets_nil) h5 (comp_runG t u M step P h l (step a b).2 hP)
end
/-- 0, 1, .., n - 1 -/
def upToN (n : Nat) : List Int := (List.range n).map fun i : Nat => (0 + (i : Int))
theorem rngD_upTo (n : Nat) : rngD 0 n = (upToN n).map .int := by
  unfold rngD upToN
  rw [List.map_map] <;> rfl
theorem upTo_up (n : Nat) : (upToN n).Pairwise (· < ·) := by
  unfold upToN
  refine List.pairwise_map.mpr (List.pairwise_lt_range.imp ?_)
  intro a b h
  omega
theorem upTo_rg {n : Nat} {x : Int} (h : x ∈ upToN n) : 0 ≤ x ∧ x < n := by
  unfold upToN at h
  obtain ⟨i, hi, rfl⟩ := List.mem_map.mp h
  have := List.mem_range.mp hi
  omega
theorem upTo_len (n : Nat) : (upToN n).length = n := by
  unfold upToN
  rw [List.length_map, List.length_range]
theorem ev_neg {T : Tbs} {X : Cx} {G : List Cell} {mu mu1 : List Dt} {a : Expr} {pos : Pos} {i : Int} (h : EvD T X G mu a (.dat (.int i)) mu1) : EvD T X G mu (.UnaryOp .USub a pos) (.dat (.int (-i))) mu1 :=
  pe_imp (pe_un un_neg h) fun sg H Q ⟨B, F, fi, e, q⟩ => ⟨B, F, fi, e, fun v F' fi' H' s p e' h' => by
    cases h'
    exact ⟨i, rfl, q _ F' fi' H' s p e' (.int _)⟩⟩
theorem atI_last {α : Type} {l : List α} {x : α} : atI (l ++ [x]) (-1) = some x := by
  unfold atI
  have e : ixN (l ++ [x]).length (-1) = some l.length := by
    unfold ixN
    rw [List.length_append]
    rw [if_neg (by decide), if_pos (by rw [List.length_singleton]; omega), List.length_singleton]
    congr 1
    omega
  rw [e]
  exact List.getElem?_concat_length
section
variable {P : Program} {w : World} {K : PySem.W.Frag} {mg : Str → Option Value} {base : Heap}
/-- a def's contract at its function object -/
theorem fnOk_DD {T : Tbs} {k : Nat} {x : Str} {st : Stmt} {N ps : List Str} {S : FSpec} {fd : FuncData} (F : FunD K x x (defArgs st) (defBody st) (defScope st) [] [] (He.fAd K (x, none)) fd) (Sc : FnScope N ps (defScope st))
    (len : ∀ ds mu o, S ds mu o → ds.length = ps.length)
    (body : ∀ (A : Around) (outer : List Env) (s : Shared) (H : Hp) (E : XK), Room k (cxF P w K mg base N x st A outer s H E).A → ∀ ds mu o, S ds mu o → ∃ o', EndF o' o ∧ SDs T (cxF P w K mg base N x st A outer s H E) (wxE E) (start0 N.length ds) mu (defBody st) o') :
    FnOk P w K mg base (L2.CX P w) (k + 1) (He.fAd K (x, none)) fd ps (spD K T S) := by
  obtain ⟨oc, od, dV, kV, doc, pm, an, cdv, ct, osl, e, lk, hcd, hD, hK⟩ := F.ex
  obtain ⟨cc, rfl⟩ := He.codeIn_ref hcd
  have hc : He.codeOf K (x, none) = cc := He.codeOf_eq (p := (x, none)) lk (by rw [e] <;> rfl)
  subst e
  subst hc
  refine fn_of lk hcd Sc (fun vs H Q E h => ?_) fun A outer s H vs Q E hr h => ?_
  · obtain ⟨F, fi, mu, ds, o, _, h2, h3, _⟩ := h
    rw [h2.length]
    exact len ds mu o h3
  · obtain ⟨F, fi, mu, ds, o, h1, h2, h3, h4⟩ := h
    obtain ⟨o', h5, h6⟩ := body A outer s H E hr ds mu o h3
    refine ⟨_, h6, ⟨F, H, fi⟩, F, fi, h1.start h2, ?_⟩
    cases h5 with
    | same n1 n2 n3 =>
      cases o with
      | ret r mu => exact h4
      | exc C fs mu => exact fun d F' fi' _ H' => h4 d F' fi' H'
      | nx G mu => exact absurd rfl (n1 G mu)
      | brk G mu => exact absurd rfl (n2 G mu)
      | ct G mu => exact absurd rfl (n3 G mu)
    | fall => exact fun F' fi' sg' H' s p e' => h4 _ F' fi' H' s p e'.strip .non
/-- a def of the facts, at its function object, kept -/
theorem SaysX_fc {fa : List He.Fa} {fn : List He.DefD} {tf : List He.Defn} {tl : List (He.Defn × Str)} {h base : Heap} (KX : K.In base) (G : base.Ns mainGlobals mg) (c : He.SaysX fa fn [] tf (lamsB tf tl) w h K) (tb : ∀ p ∈ tf, GxR.TabB base mg (He.cT K p).1 (He.cT K p).2) : Fc fa fn tf tl K mg base :=
  ⟨KX, G, fun _ hf => c.t.d.facts hf, fun _ hd => c.t.d.defs hd, tb, c.more⟩
end
end Dl

set_option Elab.async false
set_option linter.all false
set_option maxRecDepth 100000
set_option maxHeartbeats 4000000
namespace K63
open PySem PySem.Spec PyProof.Rows L2 Dl
/-! ### the text -/
def top (i : Nat) : Stmt := PySem.Challenge.pw_dropframes_k63_whole_foldings.main.body.getD i (.Pass ⟨0, 0, 0, 0⟩)
abbrev s_is_number : Stmt := top 7
abbrev s_are_nexts : Stmt := top 8
abbrev s_need_reel : Stmt := top 9
abbrev s_beyond : Stmt := top 10
abbrev s_come_to : Stmt := top 11
abbrev s_states_of : Stmt := top 12
abbrev s_need_gap : Stmt := top 15
abbrev s_most_left : Stmt := top 16
abbrev s_from_start : Stmt := top 17
abbrev s_ahead : Stmt := top 18
abbrev s_may_be : Stmt := top 19
abbrev s_first_pairs : Stmt := top 21
abbrev s_next_pairs : Stmt := top 22
abbrev s_web_of : Stmt := top 23
abbrev s_ranks_of : Stmt := top 24
abbrev s_need_two : Stmt := top 25
abbrev s_comes_out : Stmt := top 26
abbrev s_moved : Stmt := top 28
abbrev s_pictures_behind : Stmt := top 29
abbrev s_first_parting : Stmt := top 30
abbrev s_parting_of : Stmt := top 31
abbrev s_are_same : Stmt := top 32
abbrev s_classes_of : Stmt := top 33
abbrev s_folded_of : Stmt := top 34
abbrev s_folded : Stmt := top 35
abbrev s_law_taken : Stmt := top 37
abbrev s_law_pick : Stmt := top 38
abbrev s_law_alike : Stmt := top 39
abbrev s_law_reel : Stmt := top 40
abbrev s_law_gap : Stmt := top 41
abbrev s_law_beyond : Stmt := top 42
abbrev s_law_within : Stmt := top 43
abbrev s_law_may : Stmt := top 44
abbrev s_law_see : Stmt := top 45
abbrev s_law_stands : Stmt := top 46
abbrev s_law_can : Stmt := top 47
abbrev s_law_alike_pairs : Stmt := top 48
abbrev s_law : Stmt := top 49
/-! ### the facts of the module -/
def fa : List He.Fa := [.glo "is_number", .glo "are_nexts", .glo "need_reel", .glo "beyond", .glo "come_to", .glo "states_of", .glo "need_gap", .glo "most_left", .glo "from_start", .glo "ahead", .glo "may_be", .glo "first_pairs", .glo "next_pairs", .glo "web_of", .glo "ranks_of", .glo "need_two", .glo "comes_out", .glo "moved", .glo "pictures_behind", .glo "first_parting", .glo "parting_of", .glo "are_same", .glo "classes_of", .glo "folded_of", .glo "folded", .glo "_law_taken", .glo "_law_pick", .glo "_law_alike", .glo "_law_reel", .glo "_law_gap", .glo "_law_beyond", .glo "_law_within", .glo "_law_may", .glo "_law_see", .glo "_law_stands", .glo "_law_can", .glo "_law_alike_pairs", .glo "law", .glo "ReelError", .glo "BadReel", .glo "BadGap", .int "MOST_STATES" 6, .int "MOST_PICTURE" 99, .int "MOST_GAP" 20, .free "ValueError", .free "all", .free "bool", .free "dict", .free "int", .free "isinstance", .free "len", .free "list", .free "max", .free "min", .free "range", .free "set", .free "sorted", .free "str", .free "tuple", .free "zip"]
def fn : List He.DefD := [dOf "is_number" s_is_number, dOf "are_nexts" s_are_nexts, dOf "need_reel" s_need_reel, dOf "beyond" s_beyond, dOf "come_to" s_come_to, dOf "states_of" s_states_of, dOf "need_gap" s_need_gap, dOf "most_left" s_most_left, dOf "from_start" s_from_start, dOf "ahead" s_ahead, dOf "may_be" s_may_be, dOf "first_pairs" s_first_pairs, dOf "next_pairs" s_next_pairs, dOf "web_of" s_web_of, dOf "ranks_of" s_ranks_of, dOf "need_two" s_need_two, dOf "comes_out" s_comes_out, dOf "moved" s_moved, dOf "pictures_behind" s_pictures_behind, dOf "first_parting" s_first_parting, dOf "parting_of" s_parting_of, dOf "are_same" s_are_same, dOf "classes_of" s_classes_of, dOf "folded_of" s_folded_of, dOf "folded" s_folded, dOf "_law_taken" s_law_taken, dOf "_law_pick" s_law_pick, dOf "_law_alike" s_law_alike, dOf "_law_reel" s_law_reel, dOf "_law_gap" s_law_gap, dOf "_law_beyond" s_law_beyond, dOf "_law_within" s_law_within, dOf "_law_may" s_law_may, dOf "_law_see" s_law_see, dOf "_law_stands" s_law_stands, dOf "_law_can" s_law_can, dOf "_law_alike_pairs" s_law_alike_pairs, dOf "law" s_law]
def tf : List He.Defn := [("are_nexts", none), ("need_reel", none), ("ranks_of", none), ("parting_of", none)]
def tl : List (He.Defn × Str) := [(("parting_of", none), "parting_of.<locals>.<lambda>")]
theorem d_is_number : fn[0]? = some (dOf "is_number" s_is_number) := rfl
theorem d_are_nexts : fn[1]? = some (dOf "are_nexts" s_are_nexts) := rfl
theorem d_need_reel : fn[2]? = some (dOf "need_reel" s_need_reel) := rfl
theorem d_beyond : fn[3]? = some (dOf "beyond" s_beyond) := rfl
theorem d_come_to : fn[4]? = some (dOf "come_to" s_come_to) := rfl
theorem d_states_of : fn[5]? = some (dOf "states_of" s_states_of) := rfl
theorem d_need_gap : fn[6]? = some (dOf "need_gap" s_need_gap) := rfl
theorem d_most_left : fn[7]? = some (dOf "most_left" s_most_left) := rfl
theorem d_from_start : fn[8]? = some (dOf "from_start" s_from_start) := rfl
theorem d_ahead : fn[9]? = some (dOf "ahead" s_ahead) := rfl
theorem d_may_be : fn[10]? = some (dOf "may_be" s_may_be) := rfl
theorem d_first_pairs : fn[11]? = some (dOf "first_pairs" s_first_pairs) := rfl
theorem d_next_pairs : fn[12]? = some (dOf "next_pairs" s_next_pairs) := rfl
theorem d_web_of : fn[13]? = some (dOf "web_of" s_web_of) := rfl
theorem d_ranks_of : fn[14]? = some (dOf "ranks_of" s_ranks_of) := rfl
theorem d_need_two : fn[15]? = some (dOf "need_two" s_need_two) := rfl
theorem d_comes_out : fn[16]? = some (dOf "comes_out" s_comes_out) := rfl
theorem d_moved : fn[17]? = some (dOf "moved" s_moved) := rfl
theorem d_pictures_behind : fn[18]? = some (dOf "pictures_behind" s_pictures_behind) := rfl
theorem d_first_parting : fn[19]? = some (dOf "first_parting" s_first_parting) := rfl
theorem d_parting_of : fn[20]? = some (dOf "parting_of" s_parting_of) := rfl
theorem d_are_same : fn[21]? = some (dOf "are_same" s_are_same) := rfl
theorem d_classes_of : fn[22]? = some (dOf "classes_of" s_classes_of) := rfl
theorem d_folded_of : fn[23]? = some (dOf "folded_of" s_folded_of) := rfl
theorem d_folded : fn[24]? = some (dOf "folded" s_folded) := rfl
theorem d_law_taken : fn[25]? = some (dOf "_law_taken" s_law_taken) := rfl
theorem d_law_pick : fn[26]? = some (dOf "_law_pick" s_law_pick) := rfl
theorem d_law_alike : fn[27]? = some (dOf "_law_alike" s_law_alike) := rfl
theorem d_law_reel : fn[28]? = some (dOf "_law_reel" s_law_reel) := rfl
theorem d_law_gap : fn[29]? = some (dOf "_law_gap" s_law_gap) := rfl
theorem d_law_beyond : fn[30]? = some (dOf "_law_beyond" s_law_beyond) := rfl
theorem d_law_within : fn[31]? = some (dOf "_law_within" s_law_within) := rfl
theorem d_law_may : fn[32]? = some (dOf "_law_may" s_law_may) := rfl
theorem d_law_see : fn[33]? = some (dOf "_law_see" s_law_see) := rfl
theorem d_law_stands : fn[34]? = some (dOf "_law_stands" s_law_stands) := rfl
theorem d_law_can : fn[35]? = some (dOf "_law_can" s_law_can) := rfl
theorem d_law_alike_pairs : fn[36]? = some (dOf "_law_alike_pairs" s_law_alike_pairs) := rfl
theorem d_law : fn[37]? = some (dOf "law" s_law) := rfl
section
variable {P : Program} {w : World} {K : PySem.W.Frag} {mg : Str → Option Value} {base : Heap} (c : Fc fa fn tf tl K mg base)
include c
theorem g_is_number : mg "is_number" = some (.ref (He.ga K "is_number")) := c.glo 0
theorem g_are_nexts : mg "are_nexts" = some (.ref (He.ga K "are_nexts")) := c.glo 1
theorem g_need_reel : mg "need_reel" = some (.ref (He.ga K "need_reel")) := c.glo 2
theorem g_beyond : mg "beyond" = some (.ref (He.ga K "beyond")) := c.glo 3
theorem g_come_to : mg "come_to" = some (.ref (He.ga K "come_to")) := c.glo 4
theorem g_states_of : mg "states_of" = some (.ref (He.ga K "states_of")) := c.glo 5
theorem g_need_gap : mg "need_gap" = some (.ref (He.ga K "need_gap")) := c.glo 6
theorem g_most_left : mg "most_left" = some (.ref (He.ga K "most_left")) := c.glo 7
theorem g_from_start : mg "from_start" = some (.ref (He.ga K "from_start")) := c.glo 8
theorem g_ahead : mg "ahead" = some (.ref (He.ga K "ahead")) := c.glo 9
theorem g_may_be : mg "may_be" = some (.ref (He.ga K "may_be")) := c.glo 10
theorem g_first_pairs : mg "first_pairs" = some (.ref (He.ga K "first_pairs")) := c.glo 11
theorem g_next_pairs : mg "next_pairs" = some (.ref (He.ga K "next_pairs")) := c.glo 12
theorem g_web_of : mg "web_of" = some (.ref (He.ga K "web_of")) := c.glo 13
theorem g_ranks_of : mg "ranks_of" = some (.ref (He.ga K "ranks_of")) := c.glo 14
theorem g_need_two : mg "need_two" = some (.ref (He.ga K "need_two")) := c.glo 15
theorem g_comes_out : mg "comes_out" = some (.ref (He.ga K "comes_out")) := c.glo 16
theorem g_moved : mg "moved" = some (.ref (He.ga K "moved")) := c.glo 17
theorem g_pictures_behind : mg "pictures_behind" = some (.ref (He.ga K "pictures_behind")) := c.glo 18
theorem g_first_parting : mg "first_parting" = some (.ref (He.ga K "first_parting")) := c.glo 19
theorem g_parting_of : mg "parting_of" = some (.ref (He.ga K "parting_of")) := c.glo 20
theorem g_are_same : mg "are_same" = some (.ref (He.ga K "are_same")) := c.glo 21
theorem g_classes_of : mg "classes_of" = some (.ref (He.ga K "classes_of")) := c.glo 22
theorem g_folded_of : mg "folded_of" = some (.ref (He.ga K "folded_of")) := c.glo 23
theorem g_folded : mg "folded" = some (.ref (He.ga K "folded")) := c.glo 24
theorem g_law_taken : mg "_law_taken" = some (.ref (He.ga K "_law_taken")) := c.glo 25
theorem g_law_pick : mg "_law_pick" = some (.ref (He.ga K "_law_pick")) := c.glo 26
theorem g_law_alike : mg "_law_alike" = some (.ref (He.ga K "_law_alike")) := c.glo 27
theorem g_law_reel : mg "_law_reel" = some (.ref (He.ga K "_law_reel")) := c.glo 28
theorem g_law_gap : mg "_law_gap" = some (.ref (He.ga K "_law_gap")) := c.glo 29
theorem g_law_beyond : mg "_law_beyond" = some (.ref (He.ga K "_law_beyond")) := c.glo 30
theorem g_law_within : mg "_law_within" = some (.ref (He.ga K "_law_within")) := c.glo 31
theorem g_law_may : mg "_law_may" = some (.ref (He.ga K "_law_may")) := c.glo 32
theorem g_law_see : mg "_law_see" = some (.ref (He.ga K "_law_see")) := c.glo 33
theorem g_law_stands : mg "_law_stands" = some (.ref (He.ga K "_law_stands")) := c.glo 34
theorem g_law_can : mg "_law_can" = some (.ref (He.ga K "_law_can")) := c.glo 35
theorem g_law_alike_pairs : mg "_law_alike_pairs" = some (.ref (He.ga K "_law_alike_pairs")) := c.glo 36
theorem g_law : mg "law" = some (.ref (He.ga K "law")) := c.glo 37
theorem g_ReelError : mg "ReelError" = some (.ref (He.ga K "ReelError")) := c.glo 38
theorem g_BadReel : mg "BadReel" = some (.ref (He.ga K "BadReel")) := c.glo 39
theorem g_BadGap : mg "BadGap" = some (.ref (He.ga K "BadGap")) := c.glo 40
theorem i_MOST_STATES : ∃ t, mg "MOST_STATES" = some (.int 6 t) := c.int 41
theorem i_MOST_PICTURE : ∃ t, mg "MOST_PICTURE" = some (.int 99 t) := c.int 42
theorem i_MOST_GAP : ∃ t, mg "MOST_GAP" = some (.int 20 t) := c.int 43
theorem b_ValueError : mg "ValueError" = none := c.free 44
theorem b_all : mg "all" = none := c.free 45
theorem b_bool : mg "bool" = none := c.free 46
theorem b_dict : mg "dict" = none := c.free 47
theorem b_int : mg "int" = none := c.free 48
theorem b_isinstance : mg "isinstance" = none := c.free 49
theorem b_len : mg "len" = none := c.free 50
theorem b_list : mg "list" = none := c.free 51
theorem b_max : mg "max" = none := c.free 52
theorem b_min : mg "min" = none := c.free 53
theorem b_range : mg "range" = none := c.free 54
theorem b_set : mg "set" = none := c.free 55
theorem b_sorted : mg "sorted" = none := c.free 56
theorem b_str : mg "str" = none := c.free 57
theorem b_tuple : mg "tuple" = none := c.free 58
theorem b_zip : mg "zip" = none := c.free 59
theorem t_are_nexts : GxR.TabB base mg (He.cT K ("are_nexts", none)).1 (He.cT K ("are_nexts", none)).2 ∧ (He.cT K ("are_nexts", none)).2 ∈ tabsOf tf tl K ∧ (tabsOf tf tl K).q (He.cT K ("are_nexts", none)).2 = none := c.tab 0
theorem t_need_reel : GxR.TabB base mg (He.cT K ("need_reel", none)).1 (He.cT K ("need_reel", none)).2 ∧ (He.cT K ("need_reel", none)).2 ∈ tabsOf tf tl K ∧ (tabsOf tf tl K).q (He.cT K ("need_reel", none)).2 = none := c.tab 1
theorem t_ranks_of : GxR.TabB base mg (He.cT K ("ranks_of", none)).1 (He.cT K ("ranks_of", none)).2 ∧ (He.cT K ("ranks_of", none)).2 ∈ tabsOf tf tl K ∧ (tabsOf tf tl K).q (He.cT K ("ranks_of", none)).2 = none := c.tab 2
theorem t_parting_of : GxR.TabB base mg (He.cT K ("parting_of", none)).1 (He.cT K ("parting_of", none)).2 ∧ (He.cT K ("parting_of", none)).2 ∈ tabsOf tf tl K ∧ (tabsOf tf tl K).q (He.cT K ("parting_of", none)).2 = some "parting_of.<locals>.<lambda>" := c.lam 3
end
/-! ### the names of the defs -/
abbrev n_is_number : List Str := ["value", "low", "high"]
theorem sc_is_number : FnScope n_is_number ["value", "low", "high"] (defScope s_is_number) := ⟨rfl, rfl, rfl, by decide +kernel, rfl, by decide +kernel, by decide +kernel⟩
theorem bi_is_number (kV doc pm : Value) (an : Option Addr) (cdv ct : Value) (us : List Value) (hl : us.length = (["value", "low", "high"] : List Str).length) : bindArgs (PySem.W.fnOf "is_number" "is_number" (defArgs s_is_number) (defBody s_is_number) (defScope s_is_number) .none kV doc pm an cdv ct) ⟨us, []⟩ = pure ((["value", "low", "high"] : List Str).zip us) := match us, hl with | [_, _, _], _ => rfl
abbrev n_are_nexts : List Str := ["value", "some"]
theorem sc_are_nexts : FnScope n_are_nexts ["value"] (defScope s_are_nexts) := ⟨rfl, rfl, rfl, by decide +kernel, rfl, by decide +kernel, by decide +kernel⟩
theorem bi_are_nexts (kV doc pm : Value) (an : Option Addr) (cdv ct : Value) (us : List Value) (hl : us.length = (["value"] : List Str).length) : bindArgs (PySem.W.fnOf "are_nexts" "are_nexts" (defArgs s_are_nexts) (defBody s_are_nexts) (defScope s_are_nexts) .none kV doc pm an cdv ct) ⟨us, []⟩ = pure ((["value"] : List Str).zip us) := match us, hl with | [_], _ => rfl
abbrev n_need_reel : List Str := ["value", "nexts", "pictures"]
theorem sc_need_reel : FnScope n_need_reel ["value"] (defScope s_need_reel) := ⟨rfl, rfl, rfl, by decide +kernel, rfl, by decide +kernel, by decide +kernel⟩
theorem bi_need_reel (kV doc pm : Value) (an : Option Addr) (cdv ct : Value) (us : List Value) (hl : us.length = (["value"] : List Str).length) : bindArgs (PySem.W.fnOf "need_reel" "need_reel" (defArgs s_need_reel) (defBody s_need_reel) (defScope s_need_reel) .none kV doc pm an cdv ct) ⟨us, []⟩ = pure ((["value"] : List Str).zip us) := match us, hl with | [_], _ => rfl
abbrev n_beyond : List Str := ["reel", "states", "state", "there"]
theorem sc_beyond : FnScope n_beyond ["reel", "states"] (defScope s_beyond) := ⟨rfl, rfl, rfl, by decide +kernel, rfl, by decide +kernel, by decide +kernel⟩
theorem bi_beyond (kV doc pm : Value) (an : Option Addr) (cdv ct : Value) (us : List Value) (hl : us.length = (["reel", "states"] : List Str).length) : bindArgs (PySem.W.fnOf "beyond" "beyond" (defArgs s_beyond) (defBody s_beyond) (defScope s_beyond) .none kV doc pm an cdv ct) ⟨us, []⟩ = pure ((["reel", "states"] : List Str).zip us) := match us, hl with | [_, _], _ => rfl
abbrev n_come_to : List Str := ["reel", "states", "found", "more"]
theorem sc_come_to : FnScope n_come_to ["reel", "states"] (defScope s_come_to) := ⟨rfl, rfl, rfl, by decide +kernel, rfl, by decide +kernel, by decide +kernel⟩
theorem bi_come_to (kV doc pm : Value) (an : Option Addr) (cdv ct : Value) (us : List Value) (hl : us.length = (["reel", "states"] : List Str).length) : bindArgs (PySem.W.fnOf "come_to" "come_to" (defArgs s_come_to) (defBody s_come_to) (defScope s_come_to) .none kV doc pm an cdv ct) ⟨us, []⟩ = pure ((["reel", "states"] : List Str).zip us) := match us, hl with | [_, _], _ => rfl
abbrev n_states_of : List Str := ["reel"]
theorem sc_states_of : FnScope n_states_of ["reel"] (defScope s_states_of) := ⟨rfl, rfl, rfl, by decide +kernel, rfl, by decide +kernel, by decide +kernel⟩
theorem bi_states_of (kV doc pm : Value) (an : Option Addr) (cdv ct : Value) (us : List Value) (hl : us.length = (["reel"] : List Str).length) : bindArgs (PySem.W.fnOf "states_of" "states_of" (defArgs s_states_of) (defBody s_states_of) (defScope s_states_of) .none kV doc pm an cdv ct) ⟨us, []⟩ = pure ((["reel"] : List Str).zip us) := match us, hl with | [_], _ => rfl
abbrev n_need_gap : List Str := ["value"]
theorem sc_need_gap : FnScope n_need_gap ["value"] (defScope s_need_gap) := ⟨rfl, rfl, rfl, by decide +kernel, rfl, by decide +kernel, by decide +kernel⟩
theorem bi_need_gap (kV doc pm : Value) (an : Option Addr) (cdv ct : Value) (us : List Value) (hl : us.length = (["value"] : List Str).length) : bindArgs (PySem.W.fnOf "need_gap" "need_gap" (defArgs s_need_gap) (defBody s_need_gap) (defScope s_need_gap) .none kV doc pm an cdv ct) ⟨us, []⟩ = pure ((["value"] : List Str).zip us) := match us, hl with | [_], _ => rfl
abbrev n_most_left : List Str := ["gap"]
theorem sc_most_left : FnScope n_most_left ["gap"] (defScope s_most_left) := ⟨rfl, rfl, rfl, by decide +kernel, rfl, by decide +kernel, by decide +kernel⟩
theorem bi_most_left (kV doc pm : Value) (an : Option Addr) (cdv ct : Value) (us : List Value) (hl : us.length = (["gap"] : List Str).length) : bindArgs (PySem.W.fnOf "most_left" "most_left" (defArgs s_most_left) (defBody s_most_left) (defScope s_most_left) .none kV doc pm an cdv ct) ⟨us, []⟩ = pure ((["gap"] : List Str).zip us) := match us, hl with | [_], _ => rfl
abbrev n_from_start : List Str := ["reel", "gap", "found", "here", "_"]
theorem sc_from_start : FnScope n_from_start ["reel", "gap"] (defScope s_from_start) := ⟨rfl, rfl, rfl, by decide +kernel, rfl, by decide +kernel, by decide +kernel⟩
theorem bi_from_start (kV doc pm : Value) (an : Option Addr) (cdv ct : Value) (us : List Value) (hl : us.length = (["reel", "gap"] : List Str).length) : bindArgs (PySem.W.fnOf "from_start" "from_start" (defArgs s_from_start) (defBody s_from_start) (defScope s_from_start) .none kV doc pm an cdv ct) ⟨us, []⟩ = pure ((["reel", "gap"] : List Str).zip us) := match us, hl with | [_, _], _ => rfl
abbrev n_ahead : List Str := ["reel", "state", "gap", "found", "here", "_"]
theorem sc_ahead : FnScope n_ahead ["reel", "state", "gap"] (defScope s_ahead) := ⟨rfl, rfl, rfl, by decide +kernel, rfl, by decide +kernel, by decide +kernel⟩
theorem bi_ahead (kV doc pm : Value) (an : Option Addr) (cdv ct : Value) (us : List Value) (hl : us.length = (["reel", "state", "gap"] : List Str).length) : bindArgs (PySem.W.fnOf "ahead" "ahead" (defArgs s_ahead) (defBody s_ahead) (defScope s_ahead) .none kV doc pm an cdv ct) ⟨us, []⟩ = pure ((["reel", "state", "gap"] : List Str).zip us) := match us, hl with | [_, _, _], _ => rfl
abbrev n_may_be : List Str := ["reel", "gap", "here", "state", "there"]
theorem sc_may_be : FnScope n_may_be ["reel", "gap", "here"] (defScope s_may_be) := ⟨rfl, rfl, rfl, by decide +kernel, rfl, by decide +kernel, by decide +kernel⟩
theorem bi_may_be (kV doc pm : Value) (an : Option Addr) (cdv ct : Value) (us : List Value) (hl : us.length = (["reel", "gap", "here"] : List Str).length) : bindArgs (PySem.W.fnOf "may_be" "may_be" (defArgs s_may_be) (defBody s_may_be) (defScope s_may_be) .none kV doc pm an cdv ct) ⟨us, []⟩ = pure ((["reel", "gap", "here"] : List Str).zip us) := match us, hl with | [_, _, _], _ => rfl
abbrev n_first_pairs : List Str := ["one", "other", "gap", "found", "state", "mate"]
theorem sc_first_pairs : FnScope n_first_pairs ["one", "other", "gap"] (defScope s_first_pairs) := ⟨rfl, rfl, rfl, by decide +kernel, rfl, by decide +kernel, by decide +kernel⟩
theorem bi_first_pairs (kV doc pm : Value) (an : Option Addr) (cdv ct : Value) (us : List Value) (hl : us.length = (["one", "other", "gap"] : List Str).length) : bindArgs (PySem.W.fnOf "first_pairs" "first_pairs" (defArgs s_first_pairs) (defBody s_first_pairs) (defScope s_first_pairs) .none kV doc pm an cdv ct) ⟨us, []⟩ = pure ((["one", "other", "gap"] : List Str).zip us) := match us, hl with | [_, _, _], _ => rfl
abbrev n_next_pairs : List Str := ["one", "other", "gap", "pair", "found", "state", "mate"]
theorem sc_next_pairs : FnScope n_next_pairs ["one", "other", "gap", "pair"] (defScope s_next_pairs) := ⟨rfl, rfl, rfl, by decide +kernel, rfl, by decide +kernel, by decide +kernel⟩
theorem bi_next_pairs (kV doc pm : Value) (an : Option Addr) (cdv ct : Value) (us : List Value) (hl : us.length = (["one", "other", "gap", "pair"] : List Str).length) : bindArgs (PySem.W.fnOf "next_pairs" "next_pairs" (defArgs s_next_pairs) (defBody s_next_pairs) (defScope s_next_pairs) .none kV doc pm an cdv ct) ⟨us, []⟩ = pure ((["one", "other", "gap", "pair"] : List Str).zip us) := match us, hl with | [_, _, _, _], _ => rfl
abbrev n_web_of : List Str := ["one", "other", "gap", "found", "waits", "pair"]
theorem sc_web_of : FnScope n_web_of ["one", "other", "gap"] (defScope s_web_of) := ⟨rfl, rfl, rfl, by decide +kernel, rfl, by decide +kernel, by decide +kernel⟩
theorem bi_web_of (kV doc pm : Value) (an : Option Addr) (cdv ct : Value) (us : List Value) (hl : us.length = (["one", "other", "gap"] : List Str).length) : bindArgs (PySem.W.fnOf "web_of" "web_of" (defArgs s_web_of) (defBody s_web_of) (defScope s_web_of) .none kV doc pm an cdv ct) ⟨us, []⟩ = pure ((["one", "other", "gap"] : List Str).zip us) := match us, hl with | [_, _, _], _ => rfl
abbrev n_ranks_of : List Str := ["web", "found", "fresh", "pair", "there"]
theorem sc_ranks_of : FnScope n_ranks_of ["web"] (defScope s_ranks_of) := ⟨rfl, rfl, rfl, by decide +kernel, rfl, by decide +kernel, by decide +kernel⟩
theorem bi_ranks_of (kV doc pm : Value) (an : Option Addr) (cdv ct : Value) (us : List Value) (hl : us.length = (["web"] : List Str).length) : bindArgs (PySem.W.fnOf "ranks_of" "ranks_of" (defArgs s_ranks_of) (defBody s_ranks_of) (defScope s_ranks_of) .none kV doc pm an cdv ct) ⟨us, []⟩ = pure ((["web"] : List Str).zip us) := match us, hl with | [_], _ => rfl
abbrev n_need_two : List Str := ["one", "other", "gap"]
theorem sc_need_two : FnScope n_need_two ["one", "other", "gap"] (defScope s_need_two) := ⟨rfl, rfl, rfl, by decide +kernel, rfl, by decide +kernel, by decide +kernel⟩
theorem bi_need_two (kV doc pm : Value) (an : Option Addr) (cdv ct : Value) (us : List Value) (hl : us.length = (["one", "other", "gap"] : List Str).length) : bindArgs (PySem.W.fnOf "need_two" "need_two" (defArgs s_need_two) (defBody s_need_two) (defScope s_need_two) .none kV doc pm an cdv ct) ⟨us, []⟩ = pure ((["one", "other", "gap"] : List Str).zip us) := match us, hl with | [_, _, _], _ => rfl
abbrev n_comes_out : List Str := ["one", "other", "gap"]
theorem sc_comes_out : FnScope n_comes_out ["one", "other", "gap"] (defScope s_comes_out) := ⟨rfl, rfl, rfl, by decide +kernel, rfl, by decide +kernel, by decide +kernel⟩
theorem bi_comes_out (kV doc pm : Value) (an : Option Addr) (cdv ct : Value) (us : List Value) (hl : us.length = (["one", "other", "gap"] : List Str).length) : bindArgs (PySem.W.fnOf "comes_out" "comes_out" (defArgs s_comes_out) (defBody s_comes_out) (defScope s_comes_out) .none kV doc pm an cdv ct) ⟨us, []⟩ = pure ((["one", "other", "gap"] : List Str).zip us) := match us, hl with | [_, _, _], _ => rfl
abbrev n_moved : List Str := ["reel", "gap", "here", "picture", "state"]
theorem sc_moved : FnScope n_moved ["reel", "gap", "here", "picture"] (defScope s_moved) := ⟨rfl, rfl, rfl, by decide +kernel, rfl, by decide +kernel, by decide +kernel⟩
theorem bi_moved (kV doc pm : Value) (an : Option Addr) (cdv ct : Value) (us : List Value) (hl : us.length = (["reel", "gap", "here", "picture"] : List Str).length) : bindArgs (PySem.W.fnOf "moved" "moved" (defArgs s_moved) (defBody s_moved) (defScope s_moved) .none kV doc pm an cdv ct) ⟨us, []⟩ = pure ((["reel", "gap", "here", "picture"] : List Str).zip us) := match us, hl with | [_, _, _, _], _ => rfl
abbrev n_pictures_behind : List Str := ["reel", "gap", "here", "state"]
theorem sc_pictures_behind : FnScope n_pictures_behind ["reel", "gap", "here"] (defScope s_pictures_behind) := ⟨rfl, rfl, rfl, by decide +kernel, rfl, by decide +kernel, by decide +kernel⟩
theorem bi_pictures_behind (kV doc pm : Value) (an : Option Addr) (cdv ct : Value) (us : List Value) (hl : us.length = (["reel", "gap", "here"] : List Str).length) : bindArgs (PySem.W.fnOf "pictures_behind" "pictures_behind" (defArgs s_pictures_behind) (defBody s_pictures_behind) (defScope s_pictures_behind) .none kV doc pm an cdv ct) ⟨us, []⟩ = pure ((["reel", "gap", "here"] : List Str).zip us) := match us, hl with | [_, _, _], _ => rfl
abbrev n_first_parting : List Str := ["one", "other", "gap", "is_bad", "layer", "seen", "later", "film", "here", "there", "pictures", "picture", "left", "right"]
theorem sc_first_parting : FnScope n_first_parting ["one", "other", "gap", "is_bad"] (defScope s_first_parting) := ⟨rfl, rfl, rfl, by decide +kernel, rfl, by decide +kernel, by decide +kernel⟩
theorem bi_first_parting (kV doc pm : Value) (an : Option Addr) (cdv ct : Value) (us : List Value) (hl : us.length = (["one", "other", "gap", "is_bad"] : List Str).length) : bindArgs (PySem.W.fnOf "first_parting" "first_parting" (defArgs s_first_parting) (defBody s_first_parting) (defScope s_first_parting) .none kV doc pm an cdv ct) ⟨us, []⟩ = pure ((["one", "other", "gap", "is_bad"] : List Str).zip us) := match us, hl with | [_, _, _, _], _ => rfl
abbrev n_parting_of : List Str := ["one", "other", "gap"]
theorem sc_parting_of : FnScope n_parting_of ["one", "other", "gap"] (defScope s_parting_of) := ⟨rfl, rfl, rfl, by decide +kernel, rfl, by decide +kernel, by decide +kernel⟩
theorem bi_parting_of (kV doc pm : Value) (an : Option Addr) (cdv ct : Value) (us : List Value) (hl : us.length = (["one", "other", "gap"] : List Str).length) : bindArgs (PySem.W.fnOf "parting_of" "parting_of" (defArgs s_parting_of) (defBody s_parting_of) (defScope s_parting_of) .none kV doc pm an cdv ct) ⟨us, []⟩ = pure ((["one", "other", "gap"] : List Str).zip us) := match us, hl with | [_, _, _], _ => rfl
abbrev n_are_same : List Str := ["one", "other", "gap"]
theorem sc_are_same : FnScope n_are_same ["one", "other", "gap"] (defScope s_are_same) := ⟨rfl, rfl, rfl, by decide +kernel, rfl, by decide +kernel, by decide +kernel⟩
theorem bi_are_same (kV doc pm : Value) (an : Option Addr) (cdv ct : Value) (us : List Value) (hl : us.length = (["one", "other", "gap"] : List Str).length) : bindArgs (PySem.W.fnOf "are_same" "are_same" (defArgs s_are_same) (defBody s_are_same) (defScope s_are_same) .none kV doc pm an cdv ct) ⟨us, []⟩ = pure ((["one", "other", "gap"] : List Str).zip us) := match us, hl with | [_, _, _], _ => rfl
abbrev n_classes_of : List Str := ["reel", "states", "heads", "state", "behind", "there", "marks", "later", "one"]
theorem sc_classes_of : FnScope n_classes_of ["reel"] (defScope s_classes_of) := ⟨rfl, rfl, rfl, by decide +kernel, rfl, by decide +kernel, by decide +kernel⟩
theorem bi_classes_of (kV doc pm : Value) (an : Option Addr) (cdv ct : Value) (us : List Value) (hl : us.length = (["reel"] : List Str).length) : bindArgs (PySem.W.fnOf "classes_of" "classes_of" (defArgs s_classes_of) (defBody s_classes_of) (defScope s_classes_of) .none kV doc pm an cdv ct) ⟨us, []⟩ = pure ((["reel"] : List Str).zip us) := match us, hl with | [_], _ => rfl
abbrev n_folded_of : List Str := ["reel", "heads", "lots", "state", "nexts", "head", "some", "there"]
theorem sc_folded_of : FnScope n_folded_of ["reel"] (defScope s_folded_of) := ⟨rfl, rfl, rfl, by decide +kernel, rfl, by decide +kernel, by decide +kernel⟩
theorem bi_folded_of (kV doc pm : Value) (an : Option Addr) (cdv ct : Value) (us : List Value) (hl : us.length = (["reel"] : List Str).length) : bindArgs (PySem.W.fnOf "folded_of" "folded_of" (defArgs s_folded_of) (defBody s_folded_of) (defScope s_folded_of) .none kV doc pm an cdv ct) ⟨us, []⟩ = pure ((["reel"] : List Str).zip us) := match us, hl with | [_], _ => rfl
abbrev n_folded : List Str := ["reel"]
theorem sc_folded : FnScope n_folded ["reel"] (defScope s_folded) := ⟨rfl, rfl, rfl, by decide +kernel, rfl, by decide +kernel, by decide +kernel⟩
theorem bi_folded (kV doc pm : Value) (an : Option Addr) (cdv ct : Value) (us : List Value) (hl : us.length = (["reel"] : List Str).length) : bindArgs (PySem.W.fnOf "folded" "folded" (defArgs s_folded) (defBody s_folded) (defScope s_folded) .none kV doc pm an cdv ct) ⟨us, []⟩ = pure ((["reel"] : List Str).zip us) := match us, hl with | [_], _ => rfl
abbrev n_law_taken : List Str := ["_law_row", "_law_many", "_law_found", "_law_cell"]
theorem sc_law_taken : FnScope n_law_taken ["_law_row", "_law_many"] (defScope s_law_taken) := ⟨rfl, rfl, rfl, by decide +kernel, rfl, by decide +kernel, by decide +kernel⟩
theorem bi_law_taken (kV doc pm : Value) (an : Option Addr) (cdv ct : Value) (us : List Value) (hl : us.length = (["_law_row", "_law_many"] : List Str).length) : bindArgs (PySem.W.fnOf "_law_taken" "_law_taken" (defArgs s_law_taken) (defBody s_law_taken) (defScope s_law_taken) .none kV doc pm an cdv ct) ⟨us, []⟩ = pure ((["_law_row", "_law_many"] : List Str).zip us) := match us, hl with | [_, _], _ => rfl
abbrev n_law_pick : List Str := ["_law_row", "_law_things"]
theorem sc_law_pick : FnScope n_law_pick ["_law_row", "_law_things"] (defScope s_law_pick) := ⟨rfl, rfl, rfl, by decide +kernel, rfl, by decide +kernel, by decide +kernel⟩
theorem bi_law_pick (kV doc pm : Value) (an : Option Addr) (cdv ct : Value) (us : List Value) (hl : us.length = (["_law_row", "_law_things"] : List Str).length) : bindArgs (PySem.W.fnOf "_law_pick" "_law_pick" (defArgs s_law_pick) (defBody s_law_pick) (defScope s_law_pick) .none kV doc pm an cdv ct) ⟨us, []⟩ = pure ((["_law_row", "_law_things"] : List Str).zip us) := match us, hl with | [_, _], _ => rfl
abbrev n_law_alike : List Str := ["_law_found", "_law_due", "_law_k", "_law_key"]
theorem sc_law_alike : FnScope n_law_alike ["_law_found", "_law_due"] (defScope s_law_alike) := ⟨rfl, rfl, rfl, by decide +kernel, rfl, by decide +kernel, by decide +kernel⟩
theorem bi_law_alike (kV doc pm : Value) (an : Option Addr) (cdv ct : Value) (us : List Value) (hl : us.length = (["_law_found", "_law_due"] : List Str).length) : bindArgs (PySem.W.fnOf "_law_alike" "_law_alike" (defArgs s_law_alike) (defBody s_law_alike) (defScope s_law_alike) .none kV doc pm an cdv ct) ⟨us, []⟩ = pure ((["_law_found", "_law_due"] : List Str).zip us) := match us, hl with | [_, _], _ => rfl
abbrev n_law_reel : List Str := ["_law_row", "_law_most", "_law_pictures", "_law_states", "_law_kind", "_law_nexts", "_law_state", "_law_some", "_law_there"]
theorem sc_law_reel : FnScope n_law_reel ["_law_row", "_law_most", "_law_pictures"] (defScope s_law_reel) := ⟨rfl, rfl, rfl, by decide +kernel, rfl, by decide +kernel, by decide +kernel⟩
theorem bi_law_reel (kV doc pm : Value) (an : Option Addr) (cdv ct : Value) (us : List Value) (hl : us.length = (["_law_row", "_law_most", "_law_pictures"] : List Str).length) : bindArgs (PySem.W.fnOf "_law_reel" "_law_reel" (defArgs s_law_reel) (defBody s_law_reel) (defScope s_law_reel) .none kV doc pm an cdv ct) ⟨us, []⟩ = pure ((["_law_row", "_law_most", "_law_pictures"] : List Str).zip us) := match us, hl with | [_, _, _], _ => rfl
abbrev n_law_gap : List Str := ["_law_row"]
theorem sc_law_gap : FnScope n_law_gap ["_law_row"] (defScope s_law_gap) := ⟨rfl, rfl, rfl, by decide +kernel, rfl, by decide +kernel, by decide +kernel⟩
theorem bi_law_gap (kV doc pm : Value) (an : Option Addr) (cdv ct : Value) (us : List Value) (hl : us.length = (["_law_row"] : List Str).length) : bindArgs (PySem.W.fnOf "_law_gap" "_law_gap" (defArgs s_law_gap) (defBody s_law_gap) (defScope s_law_gap) .none kV doc pm an cdv ct) ⟨us, []⟩ = pure ((["_law_row"] : List Str).zip us) := match us, hl with | [_], _ => rfl
abbrev n_law_beyond : List Str := ["_law_reel_here", "_law_states", "_law_found", "_law_state", "_law_there"]
theorem sc_law_beyond : FnScope n_law_beyond ["_law_reel_here", "_law_states"] (defScope s_law_beyond) := ⟨rfl, rfl, rfl, by decide +kernel, rfl, by decide +kernel, by decide +kernel⟩
theorem bi_law_beyond (kV doc pm : Value) (an : Option Addr) (cdv ct : Value) (us : List Value) (hl : us.length = (["_law_reel_here", "_law_states"] : List Str).length) : bindArgs (PySem.W.fnOf "_law_beyond" "_law_beyond" (defArgs s_law_beyond) (defBody s_law_beyond) (defScope s_law_beyond) .none kV doc pm an cdv ct) ⟨us, []⟩ = pure ((["_law_reel_here", "_law_states"] : List Str).zip us) := match us, hl with | [_, _], _ => rfl
abbrev n_law_within : List Str := ["_law_reel_here", "_law_here", "_law_gap_here", "_law_found", "_law_step", "_law_state"]
theorem sc_law_within : FnScope n_law_within ["_law_reel_here", "_law_here", "_law_gap_here"] (defScope s_law_within) := ⟨rfl, rfl, rfl, by decide +kernel, rfl, by decide +kernel, by decide +kernel⟩
theorem bi_law_within (kV doc pm : Value) (an : Option Addr) (cdv ct : Value) (us : List Value) (hl : us.length = (["_law_reel_here", "_law_here", "_law_gap_here"] : List Str).length) : bindArgs (PySem.W.fnOf "_law_within" "_law_within" (defArgs s_law_within) (defBody s_law_within) (defScope s_law_within) .none kV doc pm an cdv ct) ⟨us, []⟩ = pure ((["_law_reel_here", "_law_here", "_law_gap_here"] : List Str).zip us) := match us, hl with | [_, _, _], _ => rfl
abbrev n_law_may : List Str := ["_law_reel_here", "_law_gap_here", "_law_here"]
theorem sc_law_may : FnScope n_law_may ["_law_reel_here", "_law_gap_here", "_law_here"] (defScope s_law_may) := ⟨rfl, rfl, rfl, by decide +kernel, rfl, by decide +kernel, by decide +kernel⟩
theorem bi_law_may (kV doc pm : Value) (an : Option Addr) (cdv ct : Value) (us : List Value) (hl : us.length = (["_law_reel_here", "_law_gap_here", "_law_here"] : List Str).length) : bindArgs (PySem.W.fnOf "_law_may" "_law_may" (defArgs s_law_may) (defBody s_law_may) (defScope s_law_may) .none kV doc pm an cdv ct) ⟨us, []⟩ = pure ((["_law_reel_here", "_law_gap_here", "_law_here"] : List Str).zip us) := match us, hl with | [_, _, _], _ => rfl
abbrev n_law_see : List Str := ["_law_reel_here", "_law_gap_here", "_law_here", "_law_picture", "_law_state"]
theorem sc_law_see : FnScope n_law_see ["_law_reel_here", "_law_gap_here", "_law_here", "_law_picture"] (defScope s_law_see) := ⟨rfl, rfl, rfl, by decide +kernel, rfl, by decide +kernel, by decide +kernel⟩
theorem bi_law_see (kV doc pm : Value) (an : Option Addr) (cdv ct : Value) (us : List Value) (hl : us.length = (["_law_reel_here", "_law_gap_here", "_law_here", "_law_picture"] : List Str).length) : bindArgs (PySem.W.fnOf "_law_see" "_law_see" (defArgs s_law_see) (defBody s_law_see) (defScope s_law_see) .none kV doc pm an cdv ct) ⟨us, []⟩ = pure ((["_law_reel_here", "_law_gap_here", "_law_here", "_law_picture"] : List Str).zip us) := match us, hl with | [_, _, _, _], _ => rfl
abbrev n_law_stands : List Str := ["_law_reel_here", "_law_gap_here", "_law_film", "_law_here", "_law_picture"]
theorem sc_law_stands : FnScope n_law_stands ["_law_reel_here", "_law_gap_here", "_law_film"] (defScope s_law_stands) := ⟨rfl, rfl, rfl, by decide +kernel, rfl, by decide +kernel, by decide +kernel⟩
theorem bi_law_stands (kV doc pm : Value) (an : Option Addr) (cdv ct : Value) (us : List Value) (hl : us.length = (["_law_reel_here", "_law_gap_here", "_law_film"] : List Str).length) : bindArgs (PySem.W.fnOf "_law_stands" "_law_stands" (defArgs s_law_stands) (defBody s_law_stands) (defScope s_law_stands) .none kV doc pm an cdv ct) ⟨us, []⟩ = pure ((["_law_reel_here", "_law_gap_here", "_law_film"] : List Str).zip us) := match us, hl with | [_, _, _], _ => rfl
abbrev n_law_can : List Str := ["_law_reel_here", "_law_gap_here", "_law_film"]
theorem sc_law_can : FnScope n_law_can ["_law_reel_here", "_law_gap_here", "_law_film"] (defScope s_law_can) := ⟨rfl, rfl, rfl, by decide +kernel, rfl, by decide +kernel, by decide +kernel⟩
theorem bi_law_can (kV doc pm : Value) (an : Option Addr) (cdv ct : Value) (us : List Value) (hl : us.length = (["_law_reel_here", "_law_gap_here", "_law_film"] : List Str).length) : bindArgs (PySem.W.fnOf "_law_can" "_law_can" (defArgs s_law_can) (defBody s_law_can) (defScope s_law_can) .none kV doc pm an cdv ct) ⟨us, []⟩ = pure ((["_law_reel_here", "_law_gap_here", "_law_film"] : List Str).zip us) := match us, hl with | [_, _, _], _ => rfl
abbrev n_law_alike_pairs : List Str := ["_law_reel_here", "_law_states", "_law_left", "_law_state", "_law_mate", "_law_many", "_law_kept", "_law_here", "_law_there", "_law_lost", "_law_one", "_law_two"]
theorem sc_law_alike_pairs : FnScope n_law_alike_pairs ["_law_reel_here", "_law_states"] (defScope s_law_alike_pairs) := ⟨rfl, rfl, rfl, by decide +kernel, rfl, by decide +kernel, by decide +kernel⟩
theorem bi_law_alike_pairs (kV doc pm : Value) (an : Option Addr) (cdv ct : Value) (us : List Value) (hl : us.length = (["_law_reel_here", "_law_states"] : List Str).length) : bindArgs (PySem.W.fnOf "_law_alike_pairs" "_law_alike_pairs" (defArgs s_law_alike_pairs) (defBody s_law_alike_pairs) (defScope s_law_alike_pairs) .none kV doc pm an cdv ct) ⟨us, []⟩ = pure ((["_law_reel_here", "_law_states"] : List Str).zip us) := match us, hl with | [_, _], _ => rfl
abbrev n_law : List Str := ["_law_script", "_law_row", "_law_reel_here", "_law_states", "_law_pairs", "_law_heads", "_law_one", "_law_mate", "_law_state", "_law_lots", "_law_nexts", "_law_head", "_law_some", "_law_there", "_law_due", "_law_told", "_law_gap_here", "_law_other", "_law_film", "_law_frame"]
theorem sc_law : FnScope n_law ["_law_script"] (defScope s_law) := ⟨rfl, rfl, rfl, by decide +kernel, rfl, by decide +kernel, by decide +kernel⟩
theorem bi_law (kV doc pm : Value) (an : Option Addr) (cdv ct : Value) (us : List Value) (hl : us.length = (["_law_script"] : List Str).length) : bindArgs (PySem.W.fnOf "law" "law" (defArgs s_law) (defBody s_law) (defScope s_law) .none kV doc pm an cdv ct) ⟨us, []⟩ = pure ((["_law_script"] : List Str).zip us) := match us, hl with | [_], _ => rfl
end K63

set_option Elab.async false
set_option linter.all false
set_option maxRecDepth 100000
set_option maxHeartbeats 4000000
namespace K63
open PySem PySem.Spec PyProof.Rows L2 Dl
/-- a whole number within bounds -/
def S_is_number : FSpec := fun ds mu o => ∃ v lo hi : Int, ds = [.int v, .int lo, .int hi] ∧ o = .ret (.dat (.bl (decide (lo ≤ v) && decide (v ≤ hi)))) mu
/-! ### reels -/
def dInts (l : List Int) : Dt := .tup (l.map .int)
def dNexts (ns : List (List Int)) : Dt := .tup (ns.map dInts)
structure GoodN (ns : List (List Int)) : Prop where
  lo : 1 ≤ ns.length
  hi : ns.length ≤ 6
  ne : ∀ l ∈ ns, l ≠ []
  rg : ∀ l ∈ ns, ∀ x ∈ l, 0 ≤ x ∧ x < ns.length
  up : ∀ l ∈ ns, l.Pairwise (· < ·)
def S_are_nexts : FSpec := fun ds mu o => ∃ ns, ds = [dNexts ns] ∧ GoodN ns ∧ o = .ret (.dat (.bl true)) mu
theorem zp_next : ∀ {l : List Int} {d : Dt}, l.Pairwise (· < ·) → d ∈ zpD (l.map .int) ((l.map Dt.int).drop 1) → ∃ x y : Int, d = .tup [.int x, .int y] ∧ x < y
  | [], d, _, h => by simp [zpD] at h
  | [x], d, _, h => by simp [zpD] at h
  | x :: y :: r, d, hp, h => by
    obtain ⟨h1, h2⟩ := List.pairwise_cons.mp hp
    have h : d ∈ .tup [.int x, .int y] :: zpD ((y :: r).map .int) (((y :: r).map Dt.int).drop 1) := h
    rcases List.mem_cons.mp h with e | e
    · exact ⟨x, y, e, h1 y List.mem_cons_self⟩
    · exact zp_next h2 e
section
variable {P : Program} {w : World} {K : PySem.W.Frag} {mg : Str → Option Value} {base : Heap} (c : Fc fa fn tf tl K mg base)
include c
theorem ok_is_number : FnG P w K mg base (tabsOf tf tl K) 1 "is_number" S_is_number := by
  refine fn_DD c d_is_number (g_is_number c) sc_is_number bi_is_number (fun ds mu o ⟨_, _, _, h, _⟩ => by rw [h]; rfl) fun A outer s H E hr ds mu o h => ?_
  obtain ⟨v, lo, hi, rfl, rfl⟩ := h
  refine ⟨_, .ret, ?_⟩
  refine ss_one (sd_ret ?_)
  exact as (andT (ev_isInt (ev_val 0) (b_isinstance c) (b_int c)) (andT (ev_not (ev_isBool (ev_val 0) (b_isinstance c) (b_bool c))) (ev_one (ev_chain op_le op_le (ev_val 1) (ev_val 0) (ev_val 2)))))

theorem ok_are_nexts : FnG P w K mg base (tabsOf tf tl K) 3 "are_nexts" S_are_nexts := by
  refine fn_DD c d_are_nexts (g_are_nexts c) sc_are_nexts bi_are_nexts (fun ds mu o ⟨_, h, _⟩ => by rw [h]; rfl) fun A outer s H E hr ds mu o h => ?_
  obtain ⟨ns, rfl, g, rfl⟩ := h
  refine ⟨_, .ret, ?_⟩
  have g1 := g.lo
  have g2 := g.hi
  have hlen : (ns.map dInts).length = ns.length := List.length_map ..
  refine ss_cons (sif0 (et_w (worF (et_not (et_val (ev_isTup (ev_val 0) (b_isinstance c) (b_tuple c)))) (ew_or1 (et_not (et_chain op_le op_le ev_int (ev_lenT (ev_val 0) (b_len c)) (ev_gint (i_MOST_STATES c))))))) ?_) ?_
  · rw [hlen, decide_eq_true (by omega), decide_eq_true (by omega)]
    rfl
  refine ss_cons (sd_for (passes_of rfl) rfl (ei_tup (ev_val 0)) (for_same fun d hd => ?_)) (ss_one (sd_ret ev_bl))
  obtain ⟨l, hl, rfl⟩ := List.mem_map.mp hd
  have ne := g.ne l hl
  have rg := g.rg l hl
  have up := g.up l hl
  obtain ⟨tb, hP⟩ := t_are_nexts c
  refine ⟨_, _, _, eg_name sc_are_nexts.nd 1, ss_cons (mu1 := mu) (sif0 (k := false) (et_w ?t)) (ss_one (sif0 (k := false) ?u)), ?_⟩
  case t =>
    refine worF (et_not (et_val (ev_isTup (ev_val 1) (b_isinstance c) (b_tuple c)))) (worF (et_not (et_tru (ev_val 1) rfl rfl)) (ew_or1 (asT (et_not (k := true) (et_val ?v1)) rfl)) ?_)
    case v1 => exact ev_all (k := 1) (N := ["value", "one"]) (cap := [some 0, none]) [1] hr tb hP rfl (gx_by (by kernel_rfl)) (capInj_of rfl) (b_all c) (ei_tup (ev_val 1)) (by decide) (gx_same fun d hd => by
        obtain ⟨x, hx, rfl⟩ := List.mem_map.mp hd
        obtain ⟨x1, x2⟩ := rg x hx
        refine ⟨_, _, fun s H code fp => eg_name (show (["value", "one"] : List Str).Nodup by decide) 1, by decide, rfl, fun s H code fp => ?_⟩
        refine asB (ev_call (ok_is_number c) (room_gx hr) (ea_cons (ev_val 1) (ea_cons ev_int (ea_cons (ev_sub (ev_lenT (ev_val 0) (b_len c)) ev_int) ea_nil))) (.dat (.dat (.dat .nil))) ⟨_, _, _, rfl, rfl⟩) ?_
        rw [hlen, decide_eq_true x1, decide_eq_true (by omega)]
        rfl)
    · cases l with
      | nil => exact absurd rfl ne
      | cons x r => rfl
  case u =>
    refine asT (et_not (k := true) (et_val ?v2)) rfl
    case v2 => exact ev_all (k := 1) (N := ["one", "other"]) (cap := [none, none]) [0, 1] hr tb hP rfl (gx_by (by kernel_rfl)) (capInj_of rfl) (b_all c) (ei_zipT (ev_val 1) (ev_slT (ev_val 1) (eo_some ev_int) eo_none) (b_zip c)) (by decide) (gx_same fun d hd => by
        have hd : d ∈ zpD (l.map .int) (cutD (l.map .int) (some ((1 : Nat) : Int)) none) := hd
        rw [cut_from (by
          rw [List.length_map]
          cases l with
          | nil => exact absurd rfl ne
          | cons x r => simp)] at hd
        obtain ⟨x, y, rfl, hxy⟩ := zp_next up hd
        refine ⟨_, _, fun s H code fp => eg_tup rfl (egs_cons (eg_name (show (["one", "other"] : List Str).Nodup by decide) 0) (egs_cons (eg_name (show (["one", "other"] : List Str).Nodup by decide) 1) egs_nil)), by decide, rfl, fun s H code fp => ?_⟩
        exact asB (ev_lt (ev_val 0) (ev_val 1)) (decide_eq_true hxy))
  · repeat (first | exact Wk.nil | refine Wk.same ?_ | refine Wk.no ?_)
end
end K63

set_option Elab.async false
set_option linter.all false
set_option maxRecDepth 100000
set_option maxHeartbeats 4000000
namespace K63
open PySem PySem.Spec PyProof.Rows L2 Dl
def dReel (ns : List (List Int)) (ps : List Int) : Dt := .tup [dNexts ns, dInts ps]
structure GoodR (ns : List (List Int)) (ps : List Int) : Prop where
  n : GoodN ns
  len : ps.length = ns.length
  rg : ∀ p ∈ ps, 0 ≤ p ∧ p ≤ 99
/-- a state's next ones; of several states, sorted -/
def nxt (ns : List (List Int)) (s : Int) : List Int := (ns[s.toNat]?).getD []
def bey (ns : List (List Int)) (st : List Int) : List Int := ssetI (st.flatMap (nxt ns))
/-- states of the reel -/
def InR (ns : List (List Int)) (st : List Int) : Prop := ∀ s ∈ st, 0 ≤ s ∧ s < ns.length
theorem nxt_mem {ns : List (List Int)} {s : Int} (h : 0 ≤ s ∧ s < ns.length) : nxt ns s ∈ ns := by
  unfold nxt
  have hl : s.toNat < ns.length := by omega
  rw [List.getElem?_eq_getElem hl]
  exact List.getElem_mem hl
theorem at_nexts {ns : List (List Int)} {s : Int} (h : 0 ≤ s ∧ s < ns.length) : atI (ns.map dInts) s = some (dInts (nxt ns s)) := by
  have hl : s.toNat < ns.length := by omega
  unfold atI nxt
  have e : ixN (ns.map dInts).length s = some s.toNat := by
    rw [List.length_map]
    unfold ixN
    rw [if_pos h.1, if_pos h.2]
  rw [e]
  show (ns.map dInts)[s.toNat]? = _
  rw [List.getElem?_map, List.getElem?_eq_getElem hl] <;> rfl
theorem up_len' : ∀ {l : List Int} {a b : Int}, l.Pairwise (· < ·) → (∀ x ∈ l, a ≤ x ∧ x < b) → a ≤ b → (l.length : Int) ≤ b - a
  | [], a, b, _, _, h => by simp; omega
  | x :: r, a, b, h, hr, _ => by
    obtain ⟨h1, h2⟩ := List.pairwise_cons.mp h
    have hx := hr x List.mem_cons_self
    have ih := up_len' (a := x + 1) (b := b) h2 (fun y hy => by
      have := h1 y hy
      have := hr y (List.mem_cons_of_mem _ hy)
      omega) (by omega)
    rw [List.length_cons]
    omega
theorem up_len {l : List Int} {n : Nat} (h : l.Pairwise (· < ·)) (hr : ∀ x ∈ l, 0 ≤ x ∧ x < n) : l.length ≤ n := by
  have := up_len' (a := 0) (b := n) h hr (by omega)
  omega
theorem bey_up (ns : List (List Int)) (st : List Int) : (bey ns st).Pairwise (· < ·) := ssetI_ord _
theorem bey_in {ns : List (List Int)} {st : List Int} (g : GoodN ns) (h : InR ns st) : InR ns (bey ns st) := fun x hx => by
  obtain ⟨s, hs, hx⟩ := List.mem_flatMap.mp (mem_ssetI.mp hx)
  exact g.rg _ (nxt_mem (h s hs)) x hx
theorem flat_len {ns : List (List Int)} {st : List Int} (g : GoodN ns) (h : InR ns st) (hl : st.length ≤ 6) : (st.flatMap (nxt ns)).length < 64 := by
  have k : ∀ st : List Int, InR ns st → (st.flatMap (nxt ns)).length ≤ st.length * 6 := by
    intro st
    induction st with
    | nil => intro _; simp
    | cons s st ih =>
      intro h
      rw [List.flatMap_cons, List.length_append, List.length_cons]
      have h1 := ih fun x hx => h x (List.mem_cons_of_mem _ hx)
      have h2 := nxt_mem (h s List.mem_cons_self)
      have h3 := up_len (g.up _ h2) (g.rg _ h2)
      have := g.hi
      omega
  have := k st h
  omega
def S_need_reel : FSpec := fun ds mu o => ∃ ns ps, ds = [dReel ns ps] ∧ GoodR ns ps ∧ o = .ret (.dat .non) mu
def S_beyond : FSpec := fun ds mu o => ∃ ns ps st, ds = [dReel ns ps, .lst (st.map .int)] ∧ GoodN ns ∧ InR ns st ∧ st.length ≤ 6 ∧ o = .ret (.new (.lst ((bey ns st).map .int))) mu
section
variable {P : Program} {w : World} {K : PySem.W.Frag} {mg : Str → Option Value} {base : Heap} (c : Fc fa fn tf tl K mg base)
include c
theorem ok_need_reel : FnG P w K mg base (tabsOf tf tl K) 4 "need_reel" S_need_reel := by
  refine fn_DD c d_need_reel (g_need_reel c) sc_need_reel bi_need_reel (fun ds mu o ⟨_, _, h, _⟩ => by rw [h]; rfl) fun A outer s H E hr ds mu o h => ?_
  obtain ⟨ns, ps, rfl, g, rfl⟩ := h
  apply fallen
  have hlen : (ns.map dInts).length = (ps.map Dt.int).length := by rw [List.length_map, List.length_map, g.len]
  obtain ⟨tb, hP⟩ := t_need_reel c
  refine ss_cons (sif0 (et_w (worF (et_not (et_val (ev_isTup (ev_val 0) (b_isinstance c) (b_tuple c)))) (ew_or1 (et_neI (ev_lenT (ev_val 0) (b_len c)) ev_int)))) rfl) ?_
  refine ss_cons (sd_asg (ev_val 0) (eg_tup rfl (egs_cons (eg_name sc_need_reel.nd 1) (egs_cons (eg_name sc_need_reel.nd 2) egs_nil)))) ?_
  refine ss_cons (sif0 (et_not (k := true) (et_val (ev_call (ok_are_nexts c) hr (ea_cons (ev_val 1) ea_nil) (.dat .nil) ⟨ns, rfl, g.n, rfl⟩))) rfl) ?_
  refine ss_cons (sif0 (et_w (worF (et_not (et_val (ev_isTup (ev_val 2) (b_isinstance c) (b_tuple c)))) (ew_or1 (et_neI (ev_lenT (ev_val 2) (b_len c)) (ev_lenT (ev_val 1) (b_len c)))))) ?_) ?_
  · rw [hlen, decide_eq_true rfl]
    rfl
  refine ss_one (sif0 (et_not (k := true) (et_val (ev_all (k := 1) (N := ["picture"]) (cap := [none]) [0] (hr.mono (by decide)) tb hP rfl (gx_by (by kernel_rfl)) (capInj_of rfl) (b_all c) (ei_tup (ev_val 2)) (by decide) (gx_same fun d hd => ?_)))) rfl)
  obtain ⟨x, hx, rfl⟩ := List.mem_map.mp hd
  obtain ⟨x1, x2⟩ := g.rg x hx
  refine ⟨_, _, fun s H code fp => eg_name (show (["picture"] : List Str).Nodup by decide) 0, by decide, rfl, fun s H code fp => ?_⟩
  refine asB (ev_call (ok_is_number c) (room_gx (hr.mono (by decide))) (ea_cons (ev_val 0) (ea_cons ev_int (ea_cons (ev_gint (i_MOST_PICTURE c)) ea_nil))) (.dat (.dat (.dat .nil))) ⟨_, _, _, rfl, rfl⟩) ?_
  rw [decide_eq_true x1, decide_eq_true x2]
  rfl
theorem ok_beyond : FnG P w K mg base (tabsOf tf tl K) 1 "beyond" S_beyond := by
  refine fn_DD c d_beyond (g_beyond c) sc_beyond bi_beyond (fun ds mu o ⟨_, _, _, h, _⟩ => by rw [h]; rfl) fun A outer s H E hr ds mu o h => ?_
  obtain ⟨ns, ps, st, rfl, g, hin, hl, rfl⟩ := h
  refine ⟨_, .ret, ?_⟩
  have e : (st.map Dt.int).flatMap (fun d => match d with | .int s => (nxt ns s).map Dt.int | _ => []) = (st.flatMap (nxt ns)).map .int := by
    rw [List.flatMap_map, List.map_flatMap]
  refine ss_one (sd_retN (ev_sortset rfl (ev_comp2 (own := [("state", 2), ("there", 3)]) (vs1 := [3]) rfl sc_beyond.nd (ei_list (ev_val 1)) (blkOk_by (by kernel_rfl)) (by decide) (noown rfl)
    (comp2_all (g := fun d => match d with | .int s => (nxt ns s).map .int | _ => []) fun d hd => ?_) ?_) (b_sorted c) (b_set c) (flat_len g hin hl) ?_))
  · obtain ⟨x, hx, rfl⟩ := List.mem_map.mp hd
    refine ⟨_, _, _, fun s H C cl fp => eg_name sc_beyond.nd 2, by decide, rfl, fun s H C cl fp => ei_tup (ev_ixT (ev_ixT (ev_val 0) ev_int rfl) (ev_val 2) (at_nexts (hin x hx))), noown rfl, comp_id fun d' hd' => ?_⟩
    exact ⟨_, _, fun s H C cl fp => eg_name sc_beyond.nd 3, by decide, rfl, fun s H C cl fp => ev_val 3⟩
  · rw [e, List.length_map]
    have := flat_len g hin hl
    omega
  · rw [e]
    rfl
end
end K63

set_option Elab.async false
set_option linter.all false
set_option maxRecDepth 100000
set_option maxHeartbeats 4000000
namespace K63
open PySem PySem.Spec PyProof.Rows L2 Dl
def dGap : Option Int → Dt
  | none => .non
  | some g => .int g
def GoodG (gap : Option Int) : Prop := ∀ g, gap = some g → 0 ≤ g ∧ g ≤ 20
/-- so many at once at most -/
def most : Option Int → Int
  | none => 6
  | some g => min g 6
theorem most_rg {gap : Option Int} (h : GoodG gap) : 0 ≤ most gap ∧ most gap ≤ 6 := by
  cases gap with
  | none => exact ⟨by decide, by decide⟩
  | some g =>
    have := h g rfl
    show 0 ≤ min g 6 ∧ min g 6 ≤ 6
    omega
def stepF (ns : List (List Int)) (p : List Int × List Int) : List Int × List Int := (ssetI (p.1 ++ bey ns p.2), bey ns p.2)
/-- all that is seen within n steps, from p -/
def wide (ns : List (List Int)) (n : Nat) (p : List Int × List Int) : List Int × List Int := (rngD 0 n).foldl (fun p _ => stepF ns p) p
def fromS (ns : List (List Int)) (gap : Option Int) : List Int := (wide ns (most gap).toNat ([0], [0])).1
def aheadS (ns : List (List Int)) (s : Int) (gap : Option Int) : List Int := (wide ns (most gap + 1).toNat ([], [s])).1
def mayBe (ns : List (List Int)) (gap : Option Int) : Option (List Int) → List Int
  | none => fromS ns gap
  | some here => ssetI (here.flatMap fun s => aheadS ns s gap)
def pic (ps : List Int) (s : Int) : Int := (ps[s.toNat]?).getD 0
def seeS (ns : List (List Int)) (ps : List Int) (gap : Option Int) (here : Option (List Int)) (p : Int) : List Int := (mayBe ns gap here).filter fun s => decide (pic ps s = p)
def standS (ns : List (List Int)) (ps : List Int) (gap : Option Int) (film : List Int) : Option (List Int) := film.foldl (fun here p => some (seeS ns ps gap here p)) none
/-- states, ordered -/
structure St6 (ns : List (List Int)) (l : List Int) : Prop where
  up : l.Pairwise (· < ·)
  rg : InR ns l
theorem St6.len {ns : List (List Int)} {l : List Int} (h : St6 ns l) (g : GoodN ns) : l.length ≤ 6 := by
  have := up_len h.up h.rg
  have := g.hi
  omega
theorem St6.one {ns : List (List Int)} {s : Int} (h : 0 ≤ s ∧ s < ns.length) : St6 ns [s] := ⟨List.pairwise_singleton _ _, fun x hx => by rw [List.mem_singleton.mp hx]; exact h⟩
theorem St6.nil {ns : List (List Int)} : St6 ns [] := ⟨.nil, fun x hx => by simp at hx⟩
theorem St6.bey {ns : List (List Int)} {l : List Int} (h : St6 ns l) (g : GoodN ns) : St6 ns (bey ns l) := ⟨bey_up ns l, bey_in g h.rg⟩
theorem St6.sset {ns : List (List Int)} {l : List Int} (h : InR ns l) : St6 ns (ssetI l) := ⟨ssetI_ord l, fun x hx => h x (mem_ssetI.mp hx)⟩
theorem InR.app {ns : List (List Int)} {a b : List Int} (h : InR ns a) (k : InR ns b) : InR ns (a ++ b) := fun x hx => (List.mem_append.mp hx).elim (h x) (k x)
def P2 (ns : List (List Int)) (p : List Int × List Int) : Prop := St6 ns p.1 ∧ St6 ns p.2
theorem P2.step {ns : List (List Int)} {p : List Int × List Int} (h : P2 ns p) (g : GoodN ns) : P2 ns (stepF ns p) := ⟨.sset (h.1.rg.app (h.2.bey g).rg), h.2.bey g⟩
theorem P2.wide {ns : List (List Int)} {p : List Int × List Int} (h : P2 ns p) (g : GoodN ns) (n : Nat) : P2 ns (wide ns n p) := fold_P h fun b d hb _ => hb.step g
theorem zero_in {ns : List (List Int)} (g : GoodN ns) : (0 : Int) ≤ 0 ∧ (0 : Int) < ns.length := by
  have := g.lo
  omega
theorem fromS_ok {ns : List (List Int)} (g : GoodN ns) (gap : Option Int) : St6 ns (fromS ns gap) := (P2.wide ⟨.one (zero_in g), .one (zero_in g)⟩ g _).1
theorem aheadS_ok {ns : List (List Int)} (g : GoodN ns) (gap : Option Int) {s : Int} (h : 0 ≤ s ∧ s < ns.length) : St6 ns (aheadS ns s gap) := (P2.wide ⟨.nil, .one h⟩ g _).1
theorem mayBe_ok {ns : List (List Int)} (g : GoodN ns) (gap : Option Int) {here : Option (List Int)} (h : ∀ l, here = some l → St6 ns l) : St6 ns (mayBe ns gap here) := by
  cases here with
  | none => exact fromS_ok g gap
  | some l =>
    refine .sset (fun x hx => ?_)
    obtain ⟨s, hs, hx⟩ := List.mem_flatMap.mp hx
    exact (aheadS_ok g gap ((h l rfl).rg s hs)).rg x hx
theorem seeS_ok {ns : List (List Int)} (g : GoodN ns) (gap : Option Int) {ps : List Int} {here : Option (List Int)} {p : Int} (h : ∀ l, here = some l → St6 ns l) : St6 ns (seeS ns ps gap here p) :=
  ⟨(mayBe_ok g gap h).up.sublist List.filter_sublist, fun x hx => (mayBe_ok g gap h).rg x (List.mem_filter.mp hx).1⟩
theorem app_int (a b : List Int) : a.map Dt.int ++ b.map Dt.int = (a ++ b).map Dt.int := (List.map_append ..).symm
def S_need_gap : FSpec := fun ds mu o => ∃ gap, ds = [dGap gap] ∧ GoodG gap ∧ o = .ret (.dat .non) mu
def S_most_left : FSpec := fun ds mu o => ∃ gap, ds = [dGap gap] ∧ o = .ret (.dat (.int (most gap))) mu
def S_from_start : FSpec := fun ds mu o => ∃ ns ps gap, ds = [dReel ns ps, dGap gap] ∧ GoodN ns ∧ GoodG gap ∧ o = .ret (.dat (.lst ((fromS ns gap).map .int))) mu
section
variable {P : Program} {w : World} {K : PySem.W.Frag} {mg : Str → Option Value} {base : Heap} (c : Fc fa fn tf tl K mg base)
include c
theorem ok_need_gap : FnG P w K mg base (tabsOf tf tl K) 2 "need_gap" S_need_gap := by
  refine fn_DD c d_need_gap (g_need_gap c) sc_need_gap bi_need_gap (fun ds mu o ⟨_, h, _⟩ => by rw [h]; rfl) fun A outer s H E hr ds mu o h => ?_
  obtain ⟨gap, rfl, g, rfl⟩ := h
  cases gap with
  | none => exact fallen (ss_one (sif0 (et_w (wandF (et_notnon (ev_val 0))))))
  | some v =>
    obtain ⟨h1, h2⟩ := g v rfl
    apply fallen
    refine ss_one (sif0 (et_w (wandT (et_notnon (ev_val 0)) (ew_and1 (et_not (et_val (ev_call (ok_is_number c) hr (ea_cons (ev_val 0) (ea_cons ev_int (ea_cons (ev_gint (i_MOST_GAP c)) ea_nil))) (.dat (.dat (.dat .nil))) ⟨_, _, _, rfl, rfl⟩)))))) ?_)
    rw [decide_eq_true h1, decide_eq_true h2]
    rfl
theorem ok_most_left : FnG P w K mg base (tabsOf tf tl K) 1 "most_left" S_most_left := by
  refine fn_DD c d_most_left (g_most_left c) sc_most_left bi_most_left (fun ds mu o ⟨_, h, _⟩ => by rw [h]; rfl) fun A outer s H E hr ds mu o h => ?_
  obtain ⟨gap, rfl, rfl⟩ := h
  refine ⟨_, .ret, ?_⟩
  cases gap with
  | none => exact ss_one (sd_ret (ifxT (et_isnon (ev_val 0)) (ev_gint (i_MOST_STATES c))))
  | some v => exact ss_one (sd_ret (ifxF (et_isnon (ev_val 0)) (ev_min2 rfl (ev_val 0) (ev_gint (i_MOST_STATES c)) (b_min c))))
theorem ok_from_start : FnG P w K mg base (tabsOf tf tl K) 2 "from_start" S_from_start := by
  refine fn_DD c d_from_start (g_from_start c) sc_from_start bi_from_start (fun ds mu o ⟨_, _, _, h, _⟩ => by rw [h]; rfl) fun A outer s H E hr ds mu o h => ?_
  obtain ⟨ns, ps, gap, rfl, g, gg, rfl⟩ := h
  refine ⟨_, .ret, ?_⟩
  obtain ⟨m1, m2⟩ := most_rg gg
  refine ss_cons (sd_par rfl sc_from_start.nd 2 3 (ev_lst (ea_cons ev_int ea_nil) (.dat .nil)) (ev_lst (ea_cons ev_int ea_nil) (.dat .nil)) (.new (.new .nil))) ?_
  refine ss_cons (sd_for (passes_of rfl) rfl (ei_range1 (n := most gap) (ev_call (ok_most_left c) hr (ea_cons (ev_val 1) ea_nil) (.dat .nil) ⟨gap, rfl, rfl⟩) (b_range c) (by omega) (by omega))
    (for_inv (C := fun p : List Int × List Int => [.val (dReel ns ps), .val (dGap gap), .val (.lst (p.1.map .int)), .val (.lst (p.2.map .int)), .no]) (M := fun _ => mu) (fun p _ => stepF ns p) (P2 ns) _ ([0], [0]) ⟨.one (zero_in g), .one (zero_in g)⟩ fun p d hp hd => ⟨hp.step g, ?_⟩)) (ss_one (sd_ret (ev_val 2)))
  refine ⟨_, _, _, eg_name sc_from_start.nd 4, ss_cons (sd_set sc_from_start.nd 3 (ev_give (ev_call (ok_beyond c) hr (ea_cons (ev_val 0) (ea_cons (ev_val 3) ea_nil)) (.dat (.dat .nil)) ⟨ns, ps, p.2, rfl, g, hp.2.rg, hp.2.len g, rfl⟩))) 
    (ss_one (sd_set sc_from_start.nd 2 (ev_give (ev_sortset rfl (ev_addL (ev_val 2) (ev_val 3) ?_) (b_sorted c) (b_set c) ?_ (congrArg (fun z => some (Dt.lst z)) (app_int _ _)))))), ?_⟩
  · have := hp.1.len g
    have := (hp.2.bey g).len g
    rw [List.length_map, List.length_map, sizeLine_eq]
    omega
  · have := hp.1.len g
    have := (hp.2.bey g).len g
    rw [List.length_append]
    omega
  · repeat (first | exact Wk.nil | refine Wk.same ?_ | refine Wk.no ?_)
end
end K63

set_option Elab.async false
set_option linter.all false
set_option maxRecDepth 100000
set_option maxHeartbeats 4000000
namespace K63
open PySem PySem.Spec PyProof.Rows L2 Dl
def dOpt : Option (List Int) → Dt
  | none => .non
  | some l => .lst (l.map .int)
def GoodO (ns : List (List Int)) (here : Option (List Int)) : Prop := ∀ l, here = some l → St6 ns l
def S_ahead : FSpec := fun ds mu o => ∃ ns ps s gap, ds = [dReel ns ps, .int s, dGap gap] ∧ GoodN ns ∧ (0 ≤ s ∧ s < ns.length) ∧ GoodG gap ∧ o = .ret (.dat (.lst ((aheadS ns s gap).map .int))) mu
def S_may_be : FSpec := fun ds mu o => ∃ ns ps gap here, ds = [dReel ns ps, dGap gap, dOpt here] ∧ GoodN ns ∧ GoodG gap ∧ GoodO ns here ∧ o = .ret (.dat (.lst ((mayBe ns gap here).map .int))) mu
def S_stands : FSpec := fun ds mu o => ∃ ns ps gap film, ds = [dReel ns ps, dGap gap, dInts film] ∧ GoodR ns ps ∧ GoodG gap ∧ o = .ret (.dat (.lst (((standS ns ps gap film).getD (fromS ns gap)).map .int))) mu
theorem flat6 {here : List Int} {f : Int → List Int} (hl : here.length ≤ 6) (h : ∀ s ∈ here, (f s).length ≤ 6) : (here.flatMap f).length ≤ 36 := by
  have k : ∀ l : List Int, (∀ s ∈ l, (f s).length ≤ 6) → (l.flatMap f).length ≤ l.length * 6 := by
    intro l
    induction l with
    | nil => intro _; simp
    | cons s l ih =>
      intro h
      rw [List.flatMap_cons, List.length_append, List.length_cons]
      have h1 := ih fun x hx => h x (List.mem_cons_of_mem _ hx)
      have h2 := h s List.mem_cons_self
      omega
  have := k here h
  omega
theorem at_pics {ns : List (List Int)} {ps : List Int} (g : GoodR ns ps) {s : Int} (h : 0 ≤ s ∧ s < ns.length) : atI (ps.map Dt.int) s = some (.int (pic ps s)) := by
  have hl : s.toNat < ps.length := by
    rw [g.len]
    omega
  unfold atI pic
  have e : ixN (ps.map Dt.int).length s = some s.toNat := by
    rw [List.length_map]
    unfold ixN
    rw [if_pos h.1, if_pos (by rw [g.len]; exact h.2)]
  rw [e]
  show (ps.map Dt.int)[s.toNat]? = _
  rw [List.getElem?_map, List.getElem?_eq_getElem hl] <;> rfl
section
variable {P : Program} {w : World} {K : PySem.W.Frag} {mg : Str → Option Value} {base : Heap} (c : Fc fa fn tf tl K mg base)
include c
theorem ok_ahead : FnG P w K mg base (tabsOf tf tl K) 2 "ahead" S_ahead := by
  refine fn_DD c d_ahead (g_ahead c) sc_ahead bi_ahead (fun ds mu o ⟨_, _, _, _, h, _⟩ => by rw [h]; rfl) fun A outer s H E hr ds mu o h => ?_
  obtain ⟨ns, ps, st, gap, rfl, g, hst, gg, rfl⟩ := h
  refine ⟨_, .ret, ?_⟩
  obtain ⟨m1, m2⟩ := most_rg gg
  refine ss_cons (sd_par rfl sc_ahead.nd 3 4 (ev_lst ea_nil .nil) (ev_lst (ea_cons (ev_val 1) ea_nil) (.dat .nil) (by simp)) (.new (.new .nil))) ?_
  refine ss_cons (sd_for (passes_of rfl) rfl (ei_range1 (n := most gap + 1) (ev_add (ev_call (ok_most_left c) hr (ea_cons (ev_val 2) ea_nil) (.dat .nil) ⟨gap, rfl, rfl⟩) ev_int) (b_range c) (by omega) (by omega))
    (for_inv (C := fun p : List Int × List Int => [.val (dReel ns ps), .val (.int st), .val (dGap gap), .val (.lst (p.1.map .int)), .val (.lst (p.2.map .int)), .no]) (M := fun _ => mu) (fun p _ => stepF ns p) (P2 ns) _ ([], [st]) ⟨.nil, .one hst⟩ fun p d hp hd => ⟨hp.step g, ?_⟩)) (ss_one (sd_ret (ev_val 3)))
  refine ⟨_, _, _, eg_name sc_ahead.nd 5, ss_cons (sd_set sc_ahead.nd 4 (ev_give (ev_call (ok_beyond c) hr (ea_cons (ev_val 0) (ea_cons (ev_val 4) ea_nil)) (.dat (.dat .nil)) ⟨ns, ps, p.2, rfl, g, hp.2.rg, hp.2.len g, rfl⟩)))
    (ss_one (sd_set sc_ahead.nd 3 (ev_give (ev_sortset rfl (ev_addL (ev_val 3) (ev_val 4) ?_) (b_sorted c) (b_set c) ?_ (congrArg (fun z => some (Dt.lst z)) (app_int _ _)))))), ?_⟩
  · have := hp.1.len g
    have := (hp.2.bey g).len g
    rw [List.length_map, List.length_map, sizeLine_eq]
    omega
  · have := hp.1.len g
    have := (hp.2.bey g).len g
    rw [List.length_append]
    omega
  · repeat (first | exact Wk.nil | refine Wk.same ?_ | refine Wk.no ?_)
theorem ok_may_be : FnG P w K mg base (tabsOf tf tl K) 3 "may_be" S_may_be := by
  refine fn_DD c d_may_be (g_may_be c) sc_may_be bi_may_be (fun ds mu o ⟨_, _, _, _, h, _⟩ => by rw [h]; rfl) fun A outer s H E hr ds mu o h => ?_
  obtain ⟨ns, ps, gap, here, rfl, g, gg, gh, rfl⟩ := h
  refine ⟨_, .ret, ?_⟩
  cases here with
  | none => exact ss_stop (sifT (et_isnon (ev_val 2)) (ss_one (sd_ret (ev_call (ok_from_start c) hr (ea_cons (ev_val 0) (ea_cons (ev_val 1) ea_nil)) (.dat (.dat .nil)) ⟨ns, ps, gap, rfl, g, gg, rfl⟩)))) 
  | some l =>
    have gl := gh l rfl
    have hl : (l.flatMap fun s => aheadS ns s gap).length ≤ 36 := flat6 (gl.len g) fun s hs => (aheadS_ok g gap (gl.rg s hs)).len g
    have e : (l.map Dt.int).flatMap (fun d => match d with | .int s => (aheadS ns s gap).map Dt.int | _ => []) = (l.flatMap fun s => aheadS ns s gap).map .int := by
      rw [List.flatMap_map, List.map_flatMap]
    refine ss_cons (sif0 (et_isnon (ev_val 2))) (ss_one (sd_retD (sd_retN (ev_sortset rfl (ev_comp2 (own := [("state", 3), ("there", 4)]) (vs1 := [4]) rfl sc_may_be.nd (ei_list (ev_val 2)) (blkOk_by (by kernel_rfl)) (by decide) (noown rfl)
      (comp2_all (g := fun d => match d with | .int s => (aheadS ns s gap).map .int | _ => []) fun d hd => ?_) ?_) (b_sorted c) (b_set c) (ns := l.flatMap fun s => aheadS ns s gap) (by omega) ?_))))
    · obtain ⟨x, hx, rfl⟩ := List.mem_map.mp hd
      refine ⟨_, _, _, fun s H C cl fp => eg_name sc_may_be.nd 3, by decide, rfl, fun s H C cl fp => ei_list (ev_call (ok_ahead c) hr (ea_cons (ev_val 0) (ea_cons (ev_val 3) (ea_cons (ev_val 1) ea_nil))) (.dat (.dat (.dat .nil))) ⟨ns, ps, x, gap, rfl, g, gl.rg x hx, gg, rfl⟩), noown rfl, comp_id fun d' hd' => ?_⟩
      exact ⟨_, _, fun s H C cl fp => eg_name sc_may_be.nd 4, by decide, rfl, fun s H C cl fp => ev_val 4⟩
    · rw [e, List.length_map]
      omega
    · rw [e]
      rfl
end
end K63

set_option Elab.async false
set_option linter.all false
set_option maxRecDepth 100000
set_option maxHeartbeats 4000000
namespace K63
open PySem PySem.Spec PyProof.Rows L2 Dl
/-- a reel: the next ones, the pictures -/
abbrev Reel : Type := List (List Int) × List Int
def dR (r : Reel) : Dt := dReel r.1 r.2
structure GoodRs (rs : List Reel) : Prop where
  lo : 2 ≤ rs.length
  hi : rs.length ≤ 6
  ok : ∀ r ∈ rs, GoodR r.1 r.2
structure GoodF (film : List Int) : Prop where
  len : film.length ≤ 1000
  rg : ∀ p ∈ film, 0 ≤ p ∧ p ≤ 99
def S_need_film : FSpec := fun ds mu o => ∃ film, ds = [dInts film] ∧ GoodF film ∧ o = .ret (.dat .non) mu
def S_is_reel : FSpec := fun ds mu o => ∃ r : Reel, ds = [dR r] ∧ GoodR r.1 r.2 ∧ o = .ret (.dat (.bl true)) mu
def S_need_reels : FSpec := fun ds mu o => ∃ rs : List Reel, ds = [.tup (rs.map dR)] ∧ GoodRs rs ∧ o = .ret (.dat .non) mu
section
variable {P : Program} {w : World} {K : PySem.W.Frag} {mg : Str → Option Value} {base : Heap} (c : Fc fa fn tf tl K mg base)
include c
end
end K63

set_option Elab.async false
set_option linter.all false
set_option maxRecDepth 100000
set_option maxHeartbeats 4000000
namespace K63
open PySem PySem.Spec PyProof.Rows L2 Dl
/-- the drawing row: how many are used, the running number, what is left of a big one -/
structure Row where
  i : Int
  x : Int
  y : Int
def dRow (ns : List Int) (r : Row) : Dt := .lst [.scr ns, .int r.i, .int r.x, .int r.y]
def tk (ns : List Int) (r : Row) (m : Int) : Int × Row :=
  if 0 < r.y then (r.y % m, ⟨r.i, r.x, r.y / m⟩)
  else if (ns.length : Int) < r.i + 1 then (((r.x * 48271 + 11) % 2147483647 / 7) % m, ⟨r.i + 1, (r.x * 48271 + 11) % 2147483647, r.y⟩)
  else ((ns[r.i.toNat]?).getD 0 % m, ⟨r.i + 1, (r.x * 48271 + (ns[r.i.toNat]?).getD 0 + 11) % 2147483647, if 10 ^ 18 ≤ (ns[r.i.toNat]?).getD 0 then (ns[r.i.toNat]?).getD 0 / m else r.y⟩)
theorem tk_rg {ns : List Int} {r : Row} {m : Int} (h : 0 < m) : 0 ≤ (tk ns r m).1 ∧ (tk ns r m).1 < m := by
  unfold tk
  split
  · exact ⟨Int.emod_nonneg _ (by omega), Int.emod_lt_of_pos _ h⟩
  · split
    · exact ⟨Int.emod_nonneg _ (by omega), Int.emod_lt_of_pos _ h⟩
    · exact ⟨Int.emod_nonneg _ (by omega), Int.emod_lt_of_pos _ h⟩
theorem tk_i {ns : List Int} {r : Row} {m : Int} (h : 0 ≤ r.i) : 0 ≤ (tk ns r m).2.i := by
  unfold tk
  split
  · exact h
  · split
    · show 0 ≤ r.i + 1; omega
    · show 0 ≤ r.i + 1; omega
def S_taken : FSpec := fun ds mu o => ∃ ns r m, ds = [.ptr 0, .int m] ∧ mu = [dRow ns r] ∧ 0 ≤ r.i ∧ 0 < m ∧ m < 1000000 ∧ o = .ret (.dat (.int (tk ns r m).1)) [dRow ns (tk ns r m).2]
def S_pick : FSpec := fun ds mu o => ∃ ns r xs x, ds = [.ptr 0, .lst xs] ∧ mu = [dRow ns r] ∧ 0 ≤ r.i ∧ 0 < xs.length ∧ xs.length < 1000000 ∧ atI xs (tk ns r xs.length).1 = some x ∧ o = .ret (.dat x) [dRow ns (tk ns r xs.length).2]
theorem cmul48 (i : Int) : CMul i 48271 := .inr ⟨by decide, by decide⟩
section
variable {P : Program} {w : World} {K : PySem.W.Frag} {mg : Str → Option Value} {base : Heap} (c : Fc fa fn tf tl K mg base)
include c
theorem ok_taken : FnG P w K mg base (tabsOf tf tl K) 1 "_law_taken" S_taken := by
  refine fn_DD c d_law_taken (g_law_taken c) sc_law_taken bi_law_taken (fun ds mu o ⟨_, _, _, h, _⟩ => by rw [h]; rfl) fun A outer s H E hr ds mu o h => ?_
  obtain ⟨ns, r, m, rfl, rfl, hi, hm, hm2, rfl⟩ := h
  refine ⟨_, .ret, ?_⟩
  have cd : ∀ k : Int, CDiv k m := fun k => ⟨hm, by omega⟩
  have c7 : CDiv ((r.x * 48271 + 11) % 2147483647) 7 := ⟨by decide, by decide⟩
  have hP : (0 : Int) < 2147483647 := by decide
  have hE : CPow 10 18 := ⟨by decide, by decide, by decide⟩
  unfold tk
  by_cases h1 : 0 < r.y
  · rw [if_pos h1]
    refine ss_stop (sifT (et_gt (ev_ixP (ev_val 0) ev_int rfl rfl) ev_int) ?_ (decide_eq_true h1))
    refine ss_cons (sd_set sc_law_taken.nd 2 (ev_mod (ev_toint (ev_ixP (ev_val 0) ev_int rfl rfl) (b_int c)) (ev_val 1) hm)) ?_
    refine ss_cons (sd_setP (n := 3) (ev_fdiv (ev_ixP (ev_val 0) ev_int rfl rfl) (ev_val 1) (cd _)) (ev_val 0) ev_int rfl rfl) ?_
    exact ss_one (sd_ret (ev_val 2))
  · rw [if_neg h1]
    refine ss_cons (sif0 (et_gt (ev_ixP (ev_val 0) ev_int rfl rfl) ev_int) (decide_eq_false h1)) ?_
    refine ss_cons (sd_setP (n := 1) (ev_add (ev_ixP (ev_val 0) ev_int rfl rfl) ev_int) (ev_val 0) ev_int rfl rfl) ?_
    by_cases h2 : (ns.length : Int) < r.i + 1
    · rw [if_pos h2]
      refine ss_stop (sifT (et_gt (ev_ixP (ev_val 0) ev_int rfl rfl) (ev_lenScr (ev_ixP (ev_val 0) ev_int rfl rfl) (b_len c))) ?_ (decide_eq_true h2))
      refine ss_cons (sd_setP (n := 2) (ev_mod (ev_toint (ev_add (ev_mul (ev_ixP (ev_val 0) ev_int rfl rfl) ev_int (cmul48 _)) ev_int) (b_int c)) ev_int hP) (ev_val 0) ev_int rfl rfl) ?_
      exact ss_one (sd_ret (ev_mod (ev_toint (ev_fdiv (ev_ixP (ev_val 0) ev_int rfl rfl) ev_int c7) (b_int c)) (ev_val 1) hm))
    · rw [if_neg h2]
      have hl : r.i.toNat < ns.length := by omega
      have hx : ns[r.i.toNat]? = some ns[r.i.toNat] := List.getElem?_eq_getElem hl
      have eg : (ns[r.i.toNat]?).getD 0 = ns[r.i.toNat] := by rw [hx] <;> rfl
      rw [eg]
      have ha : atI ns (r.i + 1 - 1) = some ns[r.i.toNat] := atI_nat (n := r.i.toNat) (by omega) hx
      refine ss_cons (sif0 (et_gt (ev_ixP (ev_val 0) ev_int rfl rfl) (ev_lenScr (ev_ixP (ev_val 0) ev_int rfl rfl) (b_len c))) (decide_eq_false h2)) ?_
      refine ss_cons (sd_set sc_law_taken.nd 3 (ev_ixScr (x := ns[r.i.toNat]) (ev_ixP (ev_val 0) ev_int rfl rfl) (ev_sub (ev_ixP (ev_val 0) ev_int rfl rfl) ev_int) ha)) ?_
      refine ss_cons (sd_setP (n := 2) (ev_mod (ev_toint (ev_add (ev_add (ev_mul (ev_ixP (ev_val 0) ev_int rfl rfl) ev_int (cmul48 _)) (ev_val 3)) ev_int) (b_int c)) ev_int hP) (ev_val 0) ev_int rfl rfl) ?_
      by_cases h3 : 10 ^ 18 ≤ ns[r.i.toNat]
      · rw [if_pos h3]
        refine ss_cons (sifT (et_ge (ev_val 3) (ev_pow ev_int ev_int hE)) (ss_one (sd_setP (n := 3) (ev_fdiv (ev_val 3) (ev_val 1) (cd _)) (ev_val 0) ev_int rfl rfl)) (decide_eq_true h3)) ?_
        exact ss_one (sd_ret (ev_mod (ev_toint (ev_val 3) (b_int c)) (ev_val 1) hm))
      · rw [if_neg h3]
        refine ss_cons (sif0 (et_ge (ev_val 3) (ev_pow ev_int ev_int hE)) (decide_eq_false h3)) ?_
        exact ss_one (sd_ret (ev_mod (ev_toint (ev_val 3) (b_int c)) (ev_val 1) hm))
theorem ok_pick : FnG P w K mg base (tabsOf tf tl K) 2 "_law_pick" S_pick := by
  refine fn_DD c d_law_pick (g_law_pick c) sc_law_pick bi_law_pick (fun ds mu o ⟨_, _, _, _, h, _⟩ => by rw [h]; rfl) fun A outer s H E hr ds mu o h => ?_
  obtain ⟨ns, r, xs, x, rfl, rfl, hi, hm, hm2, hx, rfl⟩ := h
  refine ⟨_, .ret, ?_⟩
  exact ss_one (sd_ret (ev_ixL (ev_val 1) (ev_call (ok_taken c) hr (ea_cons (ev_val 0) (ea_cons (ev_lenL (ev_val 1) (b_len c)) ea_nil)) (.dat (.dat .nil)) ⟨ns, r, _, rfl, rfl, hi, by omega, by omega, rfl⟩) hx))
end
end K63

set_option Elab.async false
set_option linter.all false
set_option maxRecDepth 100000
set_option maxHeartbeats 4000000
namespace K63
open PySem PySem.Spec PyProof.Rows L2 Dl
def some1 (ns : List Int) (_ : Int) (r : Row) : Bool × Row := (decide ((tk ns r 3).1 = 0), (tk ns r 3).2)
def pic1 (ns : List Int) (m : Int) (_ : Int) (r : Row) : Int × Row := tk ns r m
def next1 (ns : List Int) (n : Nat) (k : Int) (p : List (List Int) × Row) : List (List Int) × Row :=
  if (runF (some1 ns) (upToN n) p.2).1 ≠ [] ∧ 0 < k then (p.1 ++ [(runF (some1 ns) (upToN n) p.2).1], (runF (some1 ns) (upToN n) p.2).2)
  else (p.1 ++ [[(tk ns (runF (some1 ns) (upToN n) p.2).2 n).1]], (tk ns (runF (some1 ns) (upToN n) p.2).2 n).2)
/-- the new one's next ones -/
def next1T (ns : List Int) (n : Nat) (k : Int) (r : Row) : List Int :=
  if (runF (some1 ns) (upToN n) r).1 ≠ [] ∧ 0 < k then (runF (some1 ns) (upToN n) r).1 else [(tk ns (runF (some1 ns) (upToN n) r).2 n).1]
theorem next1_T {ns : List Int} {n : Nat} {k : Int} {p : List (List Int) × Row} : (next1 ns n k p).1 = p.1 ++ [next1T ns n k p.2] := by
  unfold next1 next1T
  split <;> rfl
theorem sd_as {T : Tbs} {X : Cx} {W : WX} {G G1 G2 : List Cell} {mu mu1 : List Dt} {st : Stmt} (h : SD T X W G mu st (.nx G1 mu1)) (e : G1 = G2) : SD T X W G mu st (.nx G2 mu1) := e ▸ h
def nexts (ns : List Int) (n : Nat) (k : Int) (r : Row) : List (List Int) × Row := (rngD 0 n).foldl (fun p _ => next1 ns n k p) ([], r)
def reelN (ns : List Int) (r : Row) (m : Int) : Nat := (1 + (tk ns r m).1).toNat
def reelS (ns : List Int) (r : Row) (m q : Int) : Reel × Row :=
  let n := reelN ns r m
  let t := tk ns (tk ns r m).2 4
  let p := nexts ns n t.1 t.2
  let s := runG (pic1 ns q) (upToN n) p.2
  ((p.1, s.1), s.2)
theorem some_i {ns : List Int} {n : Nat} {r : Row} (h : 0 ≤ r.i) : 0 ≤ (runF (some1 ns) (upToN n) r).2.i := runF_P (P := fun r : Row => 0 ≤ r.i) h fun _ _ h => tk_i h
def NP (n : Nat) (i : Nat) (p : List (List Int) × Row) : Prop := p.1.length = i ∧ (∀ l ∈ p.1, l ≠ [] ∧ (∀ x ∈ l, 0 ≤ x ∧ x < n) ∧ l.Pairwise (· < ·)) ∧ 0 ≤ p.2.i
theorem NP.step {ns : List Int} {n i : Nat} {k : Int} {p : List (List Int) × Row} (hn : 0 < n) (h : NP n i p) : NP n (i + 1) (next1 ns n k p) := by
  obtain ⟨h1, h2, h3⟩ := h
  have hi := some_i (ns := ns) (n := n) h3
  have hs := runF_sub (step := some1 ns) (l := upToN n) (b := p.2)
  unfold next1
  split
  · rename_i hc
    refine ⟨by rw [List.length_append, h1] <;> rfl, fun l hl => ?_, hi⟩
    rcases List.mem_append.mp hl with e | e
    · exact h2 l e
    · rw [List.mem_singleton.mp e]
      exact ⟨hc.1, fun x hx => upTo_rg (hs.subset hx), (upTo_up n).sublist hs⟩
  · refine ⟨by rw [List.length_append, h1] <;> rfl, fun l hl => ?_, tk_i hi⟩
    rcases List.mem_append.mp hl with e | e
    · exact h2 l e
    · rw [List.mem_singleton.mp e]
      refine ⟨by simp, fun x hx => ?_, List.pairwise_singleton _ _⟩
      rw [List.mem_singleton.mp hx]
      exact tk_rg (by omega)
theorem nexts_ok {ns : List Int} {n : Nat} {k : Int} {r : Row} (hn : 0 < n) (h : 0 ≤ r.i) : NP n n (nexts ns n k r) := by
  have := fold_N (f := fun p (_ : Dt) => next1 ns n k p) (NP n) (ds := rngD 0 n) (a := (([], r) : List (List Int) × Row)) ⟨rfl, fun l hl => by simp at hl, h⟩ fun i b d _ hb => hb.step hn
  rw [rngD_len] at this
  exact this
theorem reelN_rg {ns : List Int} {r : Row} {m : Int} (h : 0 < m) : 0 < reelN ns r m ∧ (reelN ns r m : Int) ≤ m := by
  have := tk_rg (ns := ns) (r := r) h
  unfold reelN
  omega
theorem reelS_ok {ns : List Int} {r : Row} {m q : Int} (h : 0 ≤ r.i) (hm : 0 < m) (hm6 : m ≤ 6) (hq : 0 < q) (hq9 : q ≤ 100) : GoodR (reelS ns r m q).1.1 (reelS ns r m q).1.2 ∧ 0 ≤ (reelS ns r m q).2.i := by
  obtain ⟨n1, n2⟩ := reelN_rg (ns := ns) (r := r) hm
  obtain ⟨p1, p2, p3⟩ := nexts_ok (ns := ns) (n := reelN ns r m) (k := (tk ns (tk ns r m).2 4).1) (r := (tk ns (tk ns r m).2 4).2) n1 (tk_i (tk_i h))
  refine ⟨⟨⟨?_, ?_, fun l hl => (p2 l hl).1, fun l hl x hx => ?_, fun l hl => (p2 l hl).2.2⟩, ?_, fun x hx => ?_⟩, ?_⟩
  · show 1 ≤ (nexts ns (reelN ns r m) _ _).1.length
    rw [p1]
    omega
  · show (nexts ns (reelN ns r m) _ _).1.length ≤ 6
    rw [p1]
    omega
  · show 0 ≤ x ∧ x < ((nexts ns (reelN ns r m) _ _).1.length : Int)
    rw [p1]
    exact (p2 l hl).2.1 x hx
  · show (runG (pic1 ns q) (upToN (reelN ns r m)) _).1.length = (nexts ns (reelN ns r m) _ _).1.length
    rw [runG_len, upTo_len, p1]
  · have := runG_all (step := pic1 ns q) (P := fun r : Row => 0 ≤ r.i) (R := fun x : Int => 0 ≤ x ∧ x < q) p3 (fun _ _ hb => ⟨tk_i hb, tk_rg hq⟩) x hx
    omega
  · exact runG_P (step := pic1 ns q) (P := fun r : Row => 0 ≤ r.i) p3 fun _ _ hb => tk_i hb
def S_reel : FSpec := fun ds mu o => ∃ ns r m q, ds = [.ptr 0, .int m, .int q] ∧ mu = [dRow ns r] ∧ 0 ≤ r.i ∧ 0 < m ∧ m ≤ 6 ∧ 0 < q ∧ q ≤ 100 ∧ o = .ret (.dat (dR (reelS ns r m q).1)) [dRow ns (reelS ns r m q).2]
section
variable {P : Program} {w : World} {K : PySem.W.Frag} {mg : Str → Option Value} {base : Heap} (c : Fc fa fn tf tl K mg base)
include c
theorem ok_law_reel : FnG P w K mg base (tabsOf tf tl K) 2 "_law_reel" S_reel := by
  refine fn_DD c d_law_reel (g_law_reel c) sc_law_reel bi_law_reel (fun ds mu o ⟨_, _, _, _, h, _⟩ => by rw [h]; rfl) fun A outer s H E hr ds mu o h => ?_
  obtain ⟨ns, r, m, q, rfl, rfl, hi, hm, hm6, hq, hq9, rfl⟩ := h
  refine ⟨_, .ret, ?_⟩
  obtain ⟨n1, n2⟩ := reelN_rg (ns := ns) (r := r) hm
  have eN : 1 + (tk ns r m).1 = ((reelN ns r m : Nat) : Int) := by
    have := tk_rg (ns := ns) (r := r) hm
    unfold reelN
    omega
  have i2 : 0 ≤ (tk ns (tk ns r m).2 4).2.i := tk_i (tk_i hi)
  refine ss_cons (sd_par rfl sc_law_reel.nd 3 4 (asD (ev_add ev_int (ev_call (ok_taken c) hr (ea_cons (ev_val 0) (ea_cons (ev_val 1) ea_nil)) (.dat (.dat .nil)) ⟨ns, r, m, rfl, rfl, hi, hm, by omega, rfl⟩)) (congrArg Dt.int eN))
    (ev_call (ok_taken c) hr (ea_cons (ev_val 0) (ea_cons ev_int ea_nil)) (.dat (.dat .nil)) ⟨ns, _, 4, rfl, rfl, tk_i hi, by decide, by decide, rfl⟩) (.dat (.dat .nil))) ?_
  have e0 : ((reelN ns r m : Nat) : Int).toNat = reelN ns r m := by omega
  refine ss_cons (sd_setN sc_law_reel.nd 5 (ev_lst ea_nil .nil)) ?_
  refine ss_cons (sd_for (passes_of rfl) rfl (ei_as (ei_range1 (n := (reelN ns r m : Nat)) (ev_val 3) (b_range c) (by omega) (by omega)) (congrArg (rngD 0) e0))
    (for_N (C := fun p : List (List Int) × Row => [.val (.ptr 0), .val (.int m), .val (.int q), .val (.int (reelN ns r m : Nat)), .val (.int (tk ns (tk ns r m).2 4).1), .own (.lst (p.1.map dInts)), .no, .no, .no]) (M := fun p => [dRow ns p.2])
      (fun p _ => next1 ns (reelN ns r m) (tk ns (tk ns r m).2 4).1 p) (NP (reelN ns r m)) (rngD 0 (reelN ns r m)) ([], (tk ns (tk ns r m).2 4).2) ⟨rfl, fun l hl => by simp at hl, i2⟩ fun i p d hd hp => ⟨hp.step n1, ?_⟩)) ?_
  · obtain ⟨p1, p2, p3⟩ := hp
    obtain ⟨hin, rfl⟩ := rngD_get hd
    have hi2 := some_i (ns := ns) (n := reelN ns r m) p3
    have hlen : (runF (some1 ns) (upToN (reelN ns r m)) p.2).1.length ≤ reelN ns r m := by
      have := (runF_sub (step := some1 ns) (l := upToN (reelN ns r m)) (b := p.2)).length_le
      rw [upTo_len] at this
      exact this
    refine ⟨_, _, [.val (.ptr 0), .val (.int m), .val (.int q), .val (.int (reelN ns r m : Nat)), .val (.int (tk ns (tk ns r m).2 4).1), .own (.lst ((next1 ns (reelN ns r m) (tk ns (tk ns r m).2 4).1 p).1.map dInts)), .val (.int (0 + (i : Int))), .val (.lst ((runF (some1 ns) (upToN (reelN ns r m)) p.2).1.map .int)), .no], eg_name sc_law_reel.nd 6, ss_cons (mu1 := [dRow ns (runF (some1 ns) (upToN (reelN ns r m)) p.2).2]) (sd_compV (own := [("_law_there", 8)]) rfl sc_law_reel.nd 7 (ei_as (ei_range1 (n := (reelN ns r m : Nat)) (ev_val 3) (b_range c) (by omega) (by omega)) (by rw [e0, rngD_upTo])) (blkOk_by (by kernel_rfl)) (noown rfl)
      (comp_runF .int .int (fun r : Row => [dRow ns r]) (some1 ns) (fun r : Row => 0 ≤ r.i) (fun a b hb => ⟨tk_i hb, _, _, fun s H C cl fp => eg_name sc_law_reel.nd 8, by decide, rfl, fun s H C cl fp => ets_one (et_eqI (ev_call (ok_taken c) hr (ea_cons (ev_val 0) (ea_cons ev_int ea_nil)) (.dat (.dat .nil)) ⟨ns, b, 3, rfl, rfl, hb, by decide, by decide, rfl⟩) ev_int), fun s H C cl fp => ev_val 8⟩) _ _ p3) ?_) ?_, ?_⟩
    case refine_1 =>
      rw [List.length_map]
      omega
    case refine_3 =>
      show Wk [_, _, _, _, _, .own (.lst ((next1 ns (reelN ns r m) (tk ns (tk ns r m).2 4).1 p).1.map dInts)), _, _, _] _
      exact Wk.same (Wk.same (Wk.same (Wk.same (Wk.same (Wk.same (Wk.no (Wk.no (Wk.no Wk.nil))))))))
    case refine_2 =>
      refine ss_one (sd_as (sd_append (ds := p.1.map dInts) (d := dInts (next1T ns (reelN ns r m) (tk ns (tk ns r m).2 4).1 p.2)) 5 (ev_own 5) ?_ ?_) ?_)
      · show EvD _ _ _ _ _ _ [dRow ns (next1 ns (reelN ns r m) (tk ns (tk ns r m).2 4).1 p).2]
        unfold next1 next1T
        generalize runF (some1 ns) (upToN (reelN ns r m)) p.2 = z at hi2 ⊢
        obtain ⟨l, r2⟩ := z
        have hi2 : 0 ≤ r2.i := hi2
        cases l with
        | nil => 
          rw [if_neg (fun h => h.1 rfl), if_neg (fun h => h.1 rfl)]
          exact ifxF (et_w (wandF (et_ne hr.units (ev_val 7) (ev_lst ea_nil .nil) (k := true) rfl rfl rfl))) (ev_tup (ea_cons (ev_call (ok_taken c) hr (ea_cons (ev_val 0) (ea_cons (ev_val 3) ea_nil)) (.dat (.dat .nil)) ⟨ns, r2, (reelN ns r m : Nat), rfl, rfl, hi2, by omega, by omega, rfl⟩) ea_nil) (.dat .nil) (by simp))
        | cons x l =>
          by_cases h2 : 0 < (tk ns (tk ns r m).2 4).1
          · rw [if_pos ⟨List.cons_ne_nil _ _, h2⟩, if_pos ⟨List.cons_ne_nil _ _, h2⟩]
            exact ifxT (et_w (wandT (et_ne hr.units (ev_val 7) (ev_lst ea_nil .nil) (k := false) rfl (dep_ints 59 (x :: l)) rfl) (ew_and1 (et_gt (ev_val 4) ev_int)))) (ev_totup (ev_val 7) (b_tuple c)) (decide_eq_true h2)
          · rw [if_neg (fun h => h2 h.2), if_neg (fun h => h2 h.2)]
            exact ifxF (et_w (wandT (et_ne hr.units (ev_val 7) (ev_lst ea_nil .nil) (k := false) rfl (dep_ints 59 (x :: l)) rfl) (ew_and1 (et_gt (ev_val 4) ev_int)))) (ev_tup (ea_cons (ev_call (ok_taken c) hr (ea_cons (ev_val 0) (ea_cons (ev_val 3) ea_nil)) (.dat (.dat .nil)) ⟨ns, r2, (reelN ns r m : Nat), rfl, rfl, hi2, by omega, by omega, rfl⟩) ea_nil) (.dat .nil) (by simp)) (decide_eq_false h2)
      · rw [List.length_map, p1]
        omega
      · rw [next1_T, List.map_append] <;> rfl
  · obtain ⟨p1, p2, p3⟩ := nexts_ok (ns := ns) (n := reelN ns r m) (k := (tk ns (tk ns r m).2 4).1) (r := (tk ns (tk ns r m).2 4).2) n1 i2
    have hf : (rngD 0 (reelN ns r m)).foldl (fun p _ => next1 ns (reelN ns r m) (tk ns (tk ns r m).2 4).1 p) ([], (tk ns (tk ns r m).2 4).2) = nexts ns (reelN ns r m) (tk ns (tk ns r m).2 4).1 (tk ns (tk ns r m).2 4).2 := rfl
    have eR : reelS ns r m q = (((nexts ns (reelN ns r m) (tk ns (tk ns r m).2 4).1 (tk ns (tk ns r m).2 4).2).1, (runG (pic1 ns q) (upToN (reelN ns r m)) (nexts ns (reelN ns r m) (tk ns (tk ns r m).2 4).1 (tk ns (tk ns r m).2 4).2).2).1), (runG (pic1 ns q) (upToN (reelN ns r m)) (nexts ns (reelN ns r m) (tk ns (tk ns r m).2 4).1 (tk ns (tk ns r m).2 4).2).2).2) := rfl
    rw [hf, eR]
    generalize nexts ns (reelN ns r m) (tk ns (tk ns r m).2 4).1 (tk ns (tk ns r m).2 4).2 = z at p1 p2 p3 ⊢
    obtain ⟨l, r2⟩ := z
    have p3 : 0 ≤ r2.i := p3
    refine ss_one (sd_ret (ev_tup (ea_cons (ev_totup (ev_own 5) (b_tuple c)) (ea_cons (ev_totup (ev_comp (own := [("_law_state", 6)]) rfl sc_law_reel.nd (ei_as (ei_range1 (n := (reelN ns r m : Nat)) (ev_val 3) (b_range c) (by omega) (by omega)) (by rw [e0, rngD_upTo])) (blkOk_by (by kernel_rfl)) (noown rfl)
      (comp_runG .int .int (fun r : Row => [dRow ns r]) (pic1 ns q) (fun r : Row => 0 ≤ r.i) (fun a b hb => ⟨tk_i hb, _, _, fun s H C cl fp => eg_name sc_law_reel.nd 6, by decide, rfl, fun s H C cl fp => ev_call (ok_taken c) hr (ea_cons (ev_val 0) (ea_cons (ev_val 2) ea_nil)) (.dat (.dat .nil)) ⟨ns, b, q, rfl, rfl, hb, hq, by omega, rfl⟩⟩) _ _ p3) ?_) (b_tuple c)) ea_nil)) (.dat (.dat .nil)) (by simp)))
    rw [List.length_map, runG_len, upTo_len]
    omega
end
end K63

set_option Elab.async false
set_option linter.all false
set_option maxRecDepth 100000
set_option maxHeartbeats 4000000
namespace K63
open PySem PySem.Spec PyProof.Rows L2 Dl
def gapOf (t : Int) : Option Int := (([some 0, some 0, some 1, some 2, some 20, none, none] : List (Option Int))[t.toNat]?).getD none
def gapS (ns : List Int) (r : Row) : Option Int × Row := (gapOf (tk ns r 7).1, (tk ns r 7).2)
theorem seven {t : Int} (h : 0 ≤ t ∧ t < 7) : t = 0 ∨ t = 1 ∨ t = 2 ∨ t = 3 ∨ t = 4 ∨ t = 5 ∨ t = 6 := by omega
theorem gapOf_at {t : Int} (h : 0 ≤ t ∧ t < 7) : atI [.int 0, .int 0, .int 1, .int 2, .int 20, .non, .non] t = some (dGap (gapOf t)) := by
  rcases seven h with e | e | e | e | e | e | e <;> (rw [e]; rfl)
theorem gapOf_ok {t : Int} (h : 0 ≤ t ∧ t < 7) : GoodG (gapOf t) := by
  rcases seven h with e | e | e | e | e | e | e
  case inr.inr.inr.inr.inr.inl => rw [e]; intro g hg; cases hg
  case inr.inr.inr.inr.inr.inr => rw [e]; intro g hg; cases hg
  all_goals
    rw [e]
    intro g hg
    cases hg
    decide
theorem nodup_len : ∀ (n : Nat) (l : List Int), l.Nodup → (∀ x ∈ l, 0 ≤ x ∧ x < n) → l.length ≤ n
  | 0, l, _, h => by
    cases l with
    | nil => exact Nat.le_refl _
    | cons x r =>
      have := h x List.mem_cons_self
      omega
  | n + 1, l, hn, h => by
    have ih := nodup_len n (l.erase (n : Int)) (hn.erase _) fun x hx => by
      have h1 := (hn.mem_erase_iff).mp hx
      have h2 := h x h1.2
      have h3 := h1.1
      omega
    have := List.length_erase (a := (n : Int)) (l := l)
    split at this <;> omega
/-- new ones behind the old -/
def newer (f l : List Int) : List Int := f ++ l.filter fun t => !decide (t ∈ f)
def lbey (ns : List (List Int)) (st : List Int) : List Int := st.foldl (fun f s => newer f (nxt ns s)) []
def lstep (ns : List (List Int)) (p : List Int × List Int) : List Int × List Int := (newer p.1 (lbey ns p.2), lbey ns p.2)
def lmost : Option Int → Int
  | none => 8
  | some g => min 8 g
def lwith (ns : List (List Int)) (here : List Int) (gap : Option Int) : List Int := ((rngD 0 (lmost gap).toNat).foldl (fun p _ => lstep ns p) (here, here)).1
def lmay (ns : List (List Int)) (gap : Option Int) : Option (List Int) → List Int
  | none => lwith ns [0] gap
  | some here => lwith ns (lbey ns here) gap
def lsee (ns : List (List Int)) (ps : List Int) (gap : Option Int) (here : Option (List Int)) (p : Int) : List Int := sortI ((lmay ns gap here).filter fun s => decide (pic ps s = p))
def lstand (ns : List (List Int)) (ps : List Int) (gap : Option Int) (film : List Int) : Option (List Int) := film.foldl (fun here p => some (lsee ns ps gap here p)) none
def lcan (gap : Option Int) (film : List Int) (r : Reel) : Bool := match lstand r.1 r.2 gap film with
  | none => true
  | some l => !l.isEmpty
/-- states, each once -/
structure Once (ns : List (List Int)) (l : List Int) : Prop where
  nd : l.Nodup
  rg : InR ns l
theorem Once.len {ns : List (List Int)} {l : List Int} (h : Once ns l) (g : GoodN ns) : l.length ≤ 6 := by
  have := nodup_len _ l h.nd h.rg
  have := g.hi
  omega
theorem newer_mem {f l : List Int} {x : Int} : x ∈ newer f l ↔ x ∈ f ∨ x ∈ l := by
  unfold newer
  rw [List.mem_append, List.mem_filter]
  by_cases h : x ∈ f
  · simp [h]
  · simp [h]
theorem Once.newer {ns : List (List Int)} {f l : List Int} (h : Once ns f) (k : Once ns l) : Once ns (newer f l) := ⟨by
  refine List.nodup_append.mpr ⟨h.nd, k.nd.filter _, fun a ha b hb => ?_⟩
  have := (List.mem_filter.mp hb).2
  intro e
  rw [← e] at this
  simp [ha] at this, fun x hx => (newer_mem.mp hx).elim (h.rg x) (k.rg x)⟩
theorem Once.nil {ns : List (List Int)} : Once ns [] := ⟨List.nodup_nil, fun x hx => by simp at hx⟩
theorem Once.nxt {ns : List (List Int)} (g : GoodN ns) {s : Int} (h : 0 ≤ s ∧ s < ns.length) : Once ns (nxt ns s) := ⟨(g.up _ (nxt_mem h)).imp fun h => by omega, g.rg _ (nxt_mem h)⟩
theorem Once.lbeyF {ns : List (List Int)} (g : GoodN ns) : ∀ {st : List Int} {f : List Int}, InR ns st → Once ns f → Once ns (st.foldl (fun f s => K63.newer f (K63.nxt ns s)) f)
  | [], _, _, h => h
  | s :: st, f, hs, h => lbeyF g (st := st) (fun x hx => hs x (List.mem_cons_of_mem _ hx)) (h.newer (.nxt g (hs s List.mem_cons_self)))
theorem Once.lbey {ns : List (List Int)} (g : GoodN ns) {st : List Int} (h : InR ns st) : Once ns (lbey ns st) := lbeyF g h .nil
def L2P (ns : List (List Int)) (p : List Int × List Int) : Prop := Once ns p.1 ∧ Once ns p.2
theorem L2P.step {ns : List (List Int)} {p : List Int × List Int} (h : L2P ns p) (g : GoodN ns) : L2P ns (lstep ns p) := ⟨h.1.newer (.lbey g h.2.rg), .lbey g h.2.rg⟩
theorem Once.lwith {ns : List (List Int)} (g : GoodN ns) {here : List Int} (h : Once ns here) (gap : Option Int) : Once ns (lwith ns here gap) := (fold_P (P := L2P ns) (f := fun p (_ : Dt) => lstep ns p) (a := (here, here)) ⟨h, h⟩ fun b d hb _ => hb.step g).1
theorem Once.zero {ns : List (List Int)} (g : GoodN ns) : Once ns [0] := ⟨by simp, fun x hx => by rw [List.mem_singleton.mp hx]; exact zero_in g⟩
def GoodL (ns : List (List Int)) (here : Option (List Int)) : Prop := ∀ l, here = some l → Once ns l
theorem Once.lmay {ns : List (List Int)} (g : GoodN ns) {here : Option (List Int)} (h : GoodL ns here) (gap : Option Int) : Once ns (lmay ns gap here) := by
  cases here with
  | none => exact .lwith g (.zero g) gap
  | some l => exact .lwith g (.lbey g (h l rfl).rg) gap
def dOT : Option (List Int) → Dt
  | none => .non
  | some l => .tup (l.map .int)
/-- the states of a list or of a tuple -/
def IsSt (d : Dt) (st : List Int) : Prop := d = .lst (st.map .int) ∨ d = .tup (st.map .int)
def S_gap : FSpec := fun ds mu o => ∃ ns r, ds = [.ptr 0] ∧ mu = [dRow ns r] ∧ 0 ≤ r.i ∧ o = .ret (.dat (dGap (gapS ns r).1)) [dRow ns (gapS ns r).2]
def S_lbey : FSpec := fun ds mu o => ∃ ns ps st d, ds = [dReel ns ps, d] ∧ IsSt d st ∧ GoodN ns ∧ InR ns st ∧ o = .ret (.dat (.lst ((lbey ns st).map .int))) mu
def S_lwith : FSpec := fun ds mu o => ∃ ns ps st gap, ds = [dReel ns ps, .lst (st.map .int), dGap gap] ∧ GoodN ns ∧ Once ns st ∧ GoodG gap ∧ o = .ret (.dat (.lst ((lwith ns st gap).map .int))) mu
def S_lmay : FSpec := fun ds mu o => ∃ ns ps gap here, ds = [dReel ns ps, dGap gap, dOT here] ∧ GoodN ns ∧ GoodG gap ∧ GoodL ns here ∧ o = .ret (.dat (.lst ((lmay ns gap here).map .int))) mu
def S_lsee : FSpec := fun ds mu o => ∃ ns ps gap here p, ds = [dReel ns ps, dGap gap, dOT here, .int p] ∧ GoodR ns ps ∧ GoodG gap ∧ GoodL ns here ∧ o = .ret (.dat (.tup ((lsee ns ps gap here p).map .int))) mu
def S_lstands : FSpec := fun ds mu o => ∃ ns ps gap film, ds = [dReel ns ps, dGap gap, dInts film] ∧ GoodR ns ps ∧ GoodG gap ∧ o = .ret (.dat (dOT (lstand ns ps gap film))) mu
def S_lcan : FSpec := fun ds mu o => ∃ r : Reel, ∃ gap film, ds = [dR r, dGap gap, dInts film] ∧ GoodR r.1 r.2 ∧ GoodG gap ∧ o = .ret (.dat (.bl (lcan gap film r))) mu
theorem Once.lsee {ns : List (List Int)} (g : GoodN ns) {here : Option (List Int)} (h : GoodL ns here) (gap : Option Int) (ps : List Int) (p : Int) : Once ns (lsee ns ps gap here p) := by
  have hm := Once.lmay g h gap
  exact ⟨(sortI_perm _).nodup_iff.mpr (hm.nd.filter _), fun x hx => hm.rg x (List.mem_filter.mp ((sortI_perm _).mem_iff.mp hx)).1⟩
theorem any_int (l : List Int) (x : Int) : ((l.map Dt.int).any fun z => PyData.eqv z.py (Dt.int x).py) = decide (x ∈ l) := by
  induction l with
  | nil => rfl
  | cons y l ih =>
    rw [List.map_cons, List.any_cons, ih]
    show ((y == x) || decide (x ∈ l)) = _
    by_cases h : x = y
    · subst h
      simp
    · have h2 : ¬ y = x := fun e => h e.symm
      simp [h, h2]
theorem units65 {k : Nat} {A : Around} (h : Room k A) : A.units + 65 < cLine := by
  have := h.un
  omega
section
variable {P : Program} {w : World} {K : PySem.W.Frag} {mg : Str → Option Value} {base : Heap} (c : Fc fa fn tf tl K mg base)
include c
theorem ok_law_gap : FnG P w K mg base (tabsOf tf tl K) 3 "_law_gap" S_gap := by
  refine fn_DD c d_law_gap (g_law_gap c) sc_law_gap bi_law_gap (fun ds mu o ⟨_, _, h, _⟩ => by rw [h]; rfl) fun A outer s H E hr ds mu o h => ?_
  obtain ⟨ns, r, rfl, rfl, hi, rfl⟩ := h
  refine ⟨_, .ret, ?_⟩
  have ht := tk_rg (ns := ns) (r := r) (m := 7) (by decide)
  exact ss_one (sd_ret (ev_call (ok_pick c) hr (ea_cons (ev_val 0) (ea_cons (ev_lst (ea_cons ev_int (ea_cons ev_int (ea_cons ev_int (ea_cons ev_int (ea_cons ev_int (ea_cons ev_non (ea_cons ev_non ea_nil))))))) (.dat (.dat (.dat (.dat (.dat (.dat (.dat .nil)))))))) ea_nil)) (.dat (.new .nil)) ⟨ns, r, _, _, rfl, rfl, hi, by decide, by decide, gapOf_at ht, rfl⟩))
theorem ok_law_beyond : FnG P w K mg base (tabsOf tf tl K) 1 "_law_beyond" S_lbey := by
  refine fn_DD c d_law_beyond (g_law_beyond c) sc_law_beyond bi_law_beyond (fun ds mu o ⟨_, _, _, _, h, _⟩ => by rw [h]; rfl) fun A outer s H E hr ds mu o h => ?_
  obtain ⟨ns, ps, st, d, rfl, hd, g, hin, rfl⟩ := h
  refine ⟨_, .ret, ?_⟩
  refine ss_cons (sd_set sc_law_beyond.nd 2 (ev_give (ev_lst ea_nil .nil))) ?_
  have e : (st.map Dt.int).foldl (fun f d => match d with | .int s => newer f (nxt ns s) | _ => f) [] = lbey ns st := List.foldl_map ..
  rw [← e]
  refine ss_cons (sd_for (passes_of rfl) rfl (ds := st.map Dt.int) ?it (for_inv (C := fun f : List Int => [.val (dReel ns ps), .val d, .val (.lst (f.map .int)), .no, .no]) (M := fun _ => mu) (fun f d => match d with | .int s => newer f (nxt ns s) | _ => f) (Once ns) _ [] .nil fun f d' hf hd' => ?loop)) (ss_one (sd_ret (ev_val 2)))
  case it =>
    rcases hd with rfl | rfl
    · exact ei_list (ev_val 1)
    · exact ei_tup (ev_val 1)
  case loop =>
    obtain ⟨x, hx, rfl⟩ := List.mem_map.mp hd'
    have hx' := hin x hx
    have hn := Once.nxt g hx'
    refine ⟨hf.newer hn, _, _, _, eg_name sc_law_beyond.nd 3, ss_one (sd_set sc_law_beyond.nd 2 (ev_give (as (ev_addL (ev_val 2) (ev_comp (own := [("_law_there", 4)]) rfl sc_law_beyond.nd (ei_tup (ev_ixT (ev_ixT (ev_val 0) ev_int rfl) (ev_val 3) (at_nexts hx'))) (blkOk_by (by kernel_rfl)) (noown rfl)
      (comp_filtA .int .int (q := fun t => !decide (t ∈ f)) fun y hy => ⟨_, _, fun s H C cl fp => eg_name sc_law_beyond.nd 4, by decide, rfl, fun s H C cl fp => ets_one (et_notin (units65 hr) (ev_val 4) (ev_val 2) (any_int f y) rfl (dep_ints 59 f)), fun _ s H C cl fp => ev_val 4⟩) ?_) ?_) (congrArg (fun z => Res.new (Dt.lst z)) (app_int _ _))))), ?_⟩
    · have h1 := hn.len g
      have h2 : ((nxt ns x).filter fun t => !decide (t ∈ f)).length ≤ (nxt ns x).length := List.length_filter_le _ _
      rw [List.length_map]
      omega
    · have h1 := hn.len g
      have h2 : ((nxt ns x).filter fun t => !decide (t ∈ f)).length ≤ (nxt ns x).length := List.length_filter_le _ _
      have h3 := hf.len g
      rw [List.length_map, List.length_map, sizeLine_eq]
      omega
    · repeat (first | exact Wk.nil | refine Wk.same ?_ | refine Wk.no ?_)
theorem ok_law_within : FnG P w K mg base (tabsOf tf tl K) 2 "_law_within" S_lwith := by
  refine fn_DD c d_law_within (g_law_within c) sc_law_within bi_law_within (fun ds mu o ⟨_, _, _, _, h, _⟩ => by rw [h]; rfl) fun A outer s H E hr ds mu o h => ?_
  obtain ⟨ns, ps, st, gap, rfl, g, h1, gg, rfl⟩ := h
  refine ⟨_, .ret, ?_⟩
  refine ss_cons (sd_set sc_law_within.nd 3 (ev_give (ev_tolist (ev_val 1) (b_list c) (.inl rfl)))) ?_
  refine ss_cons (sd_for (passes_of rfl) rfl (ei_range1 (n := lmost gap) (r := .dat (.int (lmost gap))) ?n (b_range c) ?lo ?hi) (for_inv (C := fun p : List Int × List Int => [.val (dReel ns ps), .val (.lst (p.2.map .int)), .val (dGap gap), .val (.lst (p.1.map .int)), .no, .no]) (M := fun _ => mu) (fun p _ => lstep ns p) (L2P ns) _ (st, st) ⟨h1, h1⟩ fun p d hp hd => ⟨hp.step g, ?loop⟩)) (ss_one (sd_ret (ev_val 3)))
  case n =>
    cases gap with
    | none => exact ifxT (et_isnon (ev_val 2)) ev_int
    | some v => exact ifxF (et_isnon (ev_val 2)) (ev_min2 rfl ev_int (ev_val 2) (b_min c))
  case lo =>
    cases gap with
    | none => decide
    | some v =>
      have := gg v rfl
      show -(2 ^ 62) ≤ min 8 v
      omega
  case hi =>
    cases gap with
    | none => decide
    | some v =>
      have := gg v rfl
      show min 8 v < 2 ^ 62
      omega
  case loop =>
    have hb := Once.lbey g hp.2.rg
    refine ⟨_, _, _, eg_name sc_law_within.nd 4, ss_cons (sd_set sc_law_within.nd 1 (ev_call (ok_law_beyond c) hr (ea_cons (ev_val 0) (ea_cons (ev_val 1) ea_nil)) (.dat (.dat .nil)) ⟨ns, ps, p.2, _, rfl, .inl rfl, g, hp.2.rg, rfl⟩))
      (ss_one (sd_set sc_law_within.nd 3 (ev_give (as (ev_addL (ev_val 3) (ev_comp (own := [("_law_state", 5)]) rfl sc_law_within.nd (ei_list (ev_val 1)) (blkOk_by (by kernel_rfl)) (noown rfl)
      (comp_filtA .int .int (q := fun t => !decide (t ∈ p.1)) fun y hy => ⟨_, _, fun s H C cl fp => eg_name sc_law_within.nd 5, by decide, rfl, fun s H C cl fp => ets_one (et_notin (units65 hr) (ev_val 5) (ev_val 3) (any_int p.1 y) rfl (dep_ints 59 p.1)), fun _ s H C cl fp => ev_val 5⟩) ?_) ?_) (congrArg (fun z => Res.new (Dt.lst z)) (app_int _ _)))))), ?_⟩
    · have h1 := hb.len g
      have h2 : ((lbey ns p.2).filter fun t => !decide (t ∈ p.1)).length ≤ (lbey ns p.2).length := List.length_filter_le _ _
      rw [List.length_map]
      omega
    · have h1 := hb.len g
      have h2 : ((lbey ns p.2).filter fun t => !decide (t ∈ p.1)).length ≤ (lbey ns p.2).length := List.length_filter_le _ _
      have h3 := hp.1.len g
      rw [List.length_map, List.length_map, sizeLine_eq]
      omega
    · repeat (first | exact Wk.nil | refine Wk.same ?_ | refine Wk.no ?_)
theorem ok_law_may : FnG P w K mg base (tabsOf tf tl K) 3 "_law_may" S_lmay := by
  refine fn_DD c d_law_may (g_law_may c) sc_law_may bi_law_may (fun ds mu o ⟨_, _, _, _, h, _⟩ => by rw [h]; rfl) fun A outer s H E hr ds mu o h => ?_
  obtain ⟨ns, ps, gap, here, rfl, g, gg, gl, rfl⟩ := h
  refine ⟨_, .ret, ?_⟩
  cases here with
  | none => exact ss_one (sd_ret (ev_call (ok_law_within c) hr (ea_cons (ev_val 0) (ea_cons (ifxT (et_isnon (ev_val 2)) (ev_lst (ea_cons ev_int ea_nil) (.dat .nil))) (ea_cons (ev_val 1) ea_nil))) (.dat (.new (.dat .nil))) ⟨ns, ps, [0], gap, rfl, g, .zero g, gg, rfl⟩))
  | some l =>
    have hl := gl l rfl
    exact ss_one (sd_ret (ev_call (ok_law_within c) hr (ea_cons (ev_val 0) (ea_cons (ifxF (et_isnon (ev_val 2)) (ev_call (ok_law_beyond c) (hr.mono (by decide)) (ea_cons (ev_val 0) (ea_cons (ev_val 2) ea_nil)) (.dat (.dat .nil)) ⟨ns, ps, l, _, rfl, .inr rfl, g, hl.rg, rfl⟩)) (ea_cons (ev_val 1) ea_nil))) (.dat (.dat (.dat .nil))) ⟨ns, ps, lbey ns l, gap, rfl, g, .lbey g hl.rg, gg, rfl⟩))
theorem ok_law_see : FnG P w K mg base (tabsOf tf tl K) 4 "_law_see" S_lsee := by
  refine fn_DD c d_law_see (g_law_see c) sc_law_see bi_law_see (fun ds mu o ⟨_, _, _, _, _, h, _⟩ => by rw [h]; rfl) fun A outer s H E hr ds mu o h => ?_
  obtain ⟨ns, ps, gap, here, p, rfl, g, gg, gl, rfl⟩ := h
  refine ⟨_, .ret, ?_⟩
  have hm := Once.lmay g.n gl gap
  refine ss_one (sd_ret (ev_totup (ev_sorted (ns := (lmay ns gap here).filter fun s => decide (pic ps s = p)) (ev_comp (own := [("_law_state", 4)]) rfl sc_law_see.nd (ei_list (ev_call (ok_law_may c) hr (ea_cons (ev_val 0) (ea_cons (ev_val 1) (ea_cons (ev_val 2) ea_nil))) (.dat (.dat (.dat .nil))) ⟨ns, ps, gap, here, rfl, g.n, gg, gl, rfl⟩)) (blkOk_by (by kernel_rfl)) (noown rfl)
    (comp_filtA .int .int (q := fun s => decide (pic ps s = p)) fun y hy => ⟨_, _, fun s H C cl fp => eg_name sc_law_see.nd 4, by decide, rfl, fun s H C cl fp => ets_one (et_eqI (ev_ixT (ev_ixT (ev_val 0) ev_int rfl) (ev_val 4) (at_pics g (hm.rg y hy))) (ev_val 3)), fun _ s H C cl fp => ev_val 4⟩) ?_) (b_sorted c) rfl) (b_tuple c)))
  have h1 := hm.len g.n
  have h2 : ((lmay ns gap here).filter fun s => decide (pic ps s = p)).length ≤ (lmay ns gap here).length := List.length_filter_le _ _
  rw [List.length_map]
  omega
theorem ok_law_stands : FnG P w K mg base (tabsOf tf tl K) 5 "_law_stands" S_lstands := by
  refine fn_DD c d_law_stands (g_law_stands c) sc_law_stands bi_law_stands (fun ds mu o ⟨_, _, _, _, h, _⟩ => by rw [h]; rfl) fun A outer s H E hr ds mu o h => ?_
  obtain ⟨ns, ps, gap, film, rfl, g, gg, rfl⟩ := h
  refine ⟨_, .ret, ?_⟩
  refine ss_cons (sd_set sc_law_stands.nd 3 ev_non) ?_
  have e : (film.map Dt.int).foldl (fun here d => match d with | .int p => some (lsee ns ps gap here p) | _ => here) none = lstand ns ps gap film := List.foldl_map ..
  rw [← e]
  refine ss_cons (sd_for (passes_of rfl) rfl (ei_tup (ev_val 2))
    (for_inv (C := fun here : Option (List Int) => [.val (dReel ns ps), .val (dGap gap), .val (dInts film), .val (dOT here), .no]) (M := fun _ => mu) (fun here d => match d with | .int p => some (lsee ns ps gap here p) | _ => here) (GoodL ns) _ none (fun l h => by cases h) fun here d hp hd => ?_)) (ss_one (sd_ret (ev_val 3)))
  obtain ⟨x, hx, rfl⟩ := List.mem_map.mp hd
  refine ⟨fun l hl => by cases hl; exact Once.lsee g.n hp gap ps x, _, _, _, eg_name sc_law_stands.nd 4, ss_one (sd_set sc_law_stands.nd 3 (ev_call (ok_law_see c) hr (ea_cons (ev_val 0) (ea_cons (ev_val 1) (ea_cons (ev_val 3) (ea_cons (ev_val 4) ea_nil)))) (.dat (.dat (.dat (.dat .nil)))) ⟨ns, ps, gap, here, x, rfl, g, gg, hp, rfl⟩)), ?_⟩
  repeat (first | exact Wk.nil | refine Wk.same ?_ | refine Wk.no ?_)
theorem ok_law_can : FnG P w K mg base (tabsOf tf tl K) 6 "_law_can" S_lcan := by
  refine fn_DD c d_law_can (g_law_can c) sc_law_can bi_law_can (fun ds mu o ⟨_, _, _, h, _⟩ => by rw [h]; rfl) fun A outer s H E hr ds mu o h => ?_
  obtain ⟨r, gap, film, rfl, g, gg, rfl⟩ := h
  refine ⟨_, .ret, ?_⟩
  refine ss_one (sd_ret (asB (ev_ne hr.units (ev_call (ok_law_stands c) hr (ea_cons (ev_val 0) (ea_cons (ev_val 1) (ea_cons (ev_val 2) ea_nil))) (.dat (.dat (.dat .nil))) ⟨r.1, r.2, gap, film, rfl, g, gg, rfl⟩) (ev_tup ea_nil .nil) (k := !lcan gap film r) ?_ ?_ rfl) ?_))
  · unfold lcan
    cases lstand r.1 r.2 gap film with
    | none => rfl
    | some l => cases l <;> rfl
  · cases lstand r.1 r.2 gap film with
    | none => rfl
    | some l => exact dep_intsT 59 l
  · exact Bool.not_not _
end
end K63

set_option Elab.async false
set_option linter.all false
set_option maxRecDepth 100000
set_option maxHeartbeats 4000000
namespace K63
open PySem PySem.Spec PyProof.Rows L2 Dl
/-! the plain law: both ways to look ahead see the same -/
/-- reached from S in k steps -/
def Rn (ns : List (List Int)) (S : Int → Prop) : Nat → Int → Prop
  | 0 => S
  | k + 1 => fun x => ∃ s, Rn ns S k s ∧ x ∈ nxt ns s
def Wt (ns : List (List Int)) (S : Int → Prop) (k : Nat) (x : Int) : Prop := ∃ j, j ≤ k ∧ Rn ns S j x
theorem Rn.congr {ns : List (List Int)} {S S' : Int → Prop} (h : ∀ x, S x ↔ S' x) : ∀ (k : Nat) (x : Int), Rn ns S k x ↔ Rn ns S' k x
  | 0, x => h x
  | k + 1, x => by
    constructor
    · rintro ⟨s, h1, h2⟩
      exact ⟨s, (Rn.congr h k s).mp h1, h2⟩
    · rintro ⟨s, h1, h2⟩
      exact ⟨s, (Rn.congr h k s).mpr h1, h2⟩
theorem Wt.congr {ns : List (List Int)} {S S' : Int → Prop} (h : ∀ x, S x ↔ S' x) (k : Nat) (x : Int) : Wt ns S k x ↔ Wt ns S' k x := by
  constructor
  · rintro ⟨j, h1, h2⟩
    exact ⟨j, h1, (Rn.congr h j x).mp h2⟩
  · rintro ⟨j, h1, h2⟩
    exact ⟨j, h1, (Rn.congr h j x).mpr h2⟩
theorem Rn.rg {ns : List (List Int)} {S : Int → Prop} (g : GoodN ns) (h : ∀ x, S x → 0 ≤ x ∧ x < ns.length) : ∀ (k : Nat) (x : Int), Rn ns S k x → 0 ≤ x ∧ x < ns.length
  | 0, x, hx => h x hx
  | k + 1, x, ⟨s, h1, h2⟩ => g.rg _ (nxt_mem (Rn.rg g h k s h1)) x h2
/-- if step k + 1 shows nothing new, nothing new comes -/
theorem stay {ns : List (List Int)} {S : Int → Prop} {k : Nat} (h : ∀ x, Rn ns S (k + 1) x → Wt ns S k x) : ∀ (m : Nat) (x : Int), Rn ns S m x → Wt ns S k x
  | 0, x, hx => ⟨0, Nat.zero_le _, hx⟩
  | m + 1, x, ⟨s, h1, h2⟩ => by
    obtain ⟨j, hj, h3⟩ := stay h m s h1
    by_cases e : j = k
    · subst e
      exact h x ⟨s, h3, h2⟩
    · exact ⟨j + 1, by omega, s, h3, h2⟩
/-- as long as each step shows something new, there are many -/
theorem many {ns : List (List Int)} {S : Int → Prop} (h0 : ∃ x, S x) : ∀ (k : Nat), (∀ i, i < k → ∃ x, Rn ns S (i + 1) x ∧ ¬ Wt ns S i x) → ∃ l : List Int, l.Nodup ∧ l.length = k + 1 ∧ ∀ x ∈ l, Wt ns S k x
  | 0, _ => by
    obtain ⟨x, hx⟩ := h0
    exact ⟨[x], by simp, rfl, fun y hy => by rw [List.mem_singleton.mp hy]; exact ⟨0, Nat.le_refl _, hx⟩⟩
  | k + 1, h => by
    obtain ⟨l, h1, h2, h3⟩ := many h0 k fun i hi => h i (by omega)
    obtain ⟨x, h4, h5⟩ := h k (by omega)
    refine ⟨x :: l, List.nodup_cons.mpr ⟨fun hx => h5 (h3 x hx), h1⟩, by rw [List.length_cons, h2], fun y hy => ?_⟩
    rcases List.mem_cons.mp hy with e | e
    · exact ⟨k + 1, Nat.le_refl _, by rw [e]; exact h4⟩
    · obtain ⟨j, hj, q⟩ := h3 y e
      exact ⟨j, by omega, q⟩
theorem wide_all {ns : List (List Int)} {S : Int → Prop} (g : GoodN ns) (h : ∀ x, S x → 0 ≤ x ∧ x < ns.length) {m : Nat} {x : Int} (hx : Rn ns S m x) : Wt ns S 6 x := by
  by_cases h0 : ∃ x, S x
  · by_cases hk : ∃ k, k < 6 ∧ ∀ x, Rn ns S (k + 1) x → Wt ns S k x
    · obtain ⟨k, hk, h1⟩ := hk
      obtain ⟨j, hj, q⟩ := stay h1 m x hx
      exact ⟨j, by omega, q⟩
    · obtain ⟨l, h1, h2, h3⟩ := many (ns := ns) h0 6 fun i hi => by
        apply Classical.byContradiction
        intro hn
        refine hk ⟨i, hi, fun x hx => Classical.byContradiction fun hw => hn ⟨x, hx, hw⟩⟩
      have := nodup_len ns.length l h1 fun x hx => by
        obtain ⟨j, _, q⟩ := h3 x hx
        exact Rn.rg g h j x q
      have := g.hi
      omega
  · exact absurd (by
      clear h
      induction m generalizing x with
      | zero => exact ⟨x, hx⟩
      | succ m ih =>
        obtain ⟨s, h1, _⟩ := hx
        exact ih h1) h0
theorem most_same {ns : List (List Int)} {S : Int → Prop} (g : GoodN ns) (h : ∀ x, S x → 0 ≤ x ∧ x < ns.length) {gap : Option Int} (gg : GoodG gap) (x : Int) : Wt ns S (most gap).toNat x ↔ Wt ns S (lmost gap).toNat x := by
  have k : ∀ a b : Nat, (a = b ∨ (6 ≤ a ∧ 6 ≤ b)) → (Wt ns S a x ↔ Wt ns S b x) := by
    intro a b hab
    rcases hab with rfl | ⟨ha, hb⟩
    · exact Iff.rfl
    · constructor
      · rintro ⟨j, _, q⟩
        obtain ⟨j', h1, h2⟩ := wide_all g h q
        exact ⟨j', by omega, h2⟩
      · rintro ⟨j, _, q⟩
        obtain ⟨j', h1, h2⟩ := wide_all g h q
        exact ⟨j', by omega, h2⟩
  apply k
  cases gap with
  | none => exact .inr ⟨by decide, by decide⟩
  | some v =>
    have := gg v rfl
    show (min v 6).toNat = (min 8 v).toNat ∨ (6 ≤ (min v 6).toNat ∧ 6 ≤ (min 8 v).toNat)
    omega
theorem bey_mem {ns : List (List Int)} {st : List Int} {x : Int} : x ∈ bey ns st ↔ ∃ s ∈ st, x ∈ nxt ns s := by
  unfold bey
  rw [mem_ssetI, List.mem_flatMap]
theorem lbey_memF {ns : List (List Int)} {x : Int} : ∀ {st f : List Int}, x ∈ st.foldl (fun f s => newer f (nxt ns s)) f ↔ x ∈ f ∨ ∃ s ∈ st, x ∈ nxt ns s
  | [], f => by simp
  | s :: st, f => by
    show x ∈ st.foldl _ (newer f (nxt ns s)) ↔ _
    rw [lbey_memF (st := st), newer_mem]
    simp [or_assoc]
theorem lbey_mem {ns : List (List Int)} {st : List Int} {x : Int} : x ∈ lbey ns st ↔ ∃ s ∈ st, x ∈ nxt ns s := by
  unfold lbey
  rw [lbey_memF]
  simp
theorem rng_succ (n : Nat) : rngD 0 (n + 1) = rngD 0 n ++ [.int (0 + (n : Int))] := by
  unfold rngD
  rw [List.range_succ, List.map_append] <;> rfl
theorem fold_succ {α : Type} (f : α → α) (a : α) (n : Nat) : (rngD 0 (n + 1)).foldl (fun p (_ : Dt) => f p) a = f ((rngD 0 n).foldl (fun p _ => f p) a) := by
  rw [rng_succ, List.foldl_append] <;> rfl
theorem wide_mem {ns : List (List Int)} {a b : List Int} : ∀ (n : Nat) (x : Int), (x ∈ (wide ns n (a, b)).1 ↔ x ∈ a ∨ ∃ j, 1 ≤ j ∧ j ≤ n ∧ Rn ns (· ∈ b) j x) ∧ (x ∈ (wide ns n (a, b)).2 ↔ Rn ns (· ∈ b) n x)
  | 0, x => by
    refine ⟨⟨fun h => .inl h, fun h => ?_⟩, Iff.rfl⟩
    rcases h with h | ⟨j, h1, h2, _⟩
    · exact h
    · omega
  | n + 1, x => by
    have e : wide ns (n + 1) (a, b) = stepF ns (wide ns n (a, b)) := fold_succ (stepF ns) (a, b) n
    rw [e]
    have h2 : x ∈ (stepF ns (wide ns n (a, b))).2 ↔ Rn ns (· ∈ b) (n + 1) x := by
      show x ∈ bey ns (wide ns n (a, b)).2 ↔ _
      rw [bey_mem]
      constructor
      · rintro ⟨s, h1, h2⟩
        exact ⟨s, (wide_mem n s).2.mp h1, h2⟩
      · rintro ⟨s, h1, h2⟩
        exact ⟨s, (wide_mem n s).2.mpr h1, h2⟩
    refine ⟨?_, h2⟩
    show x ∈ ssetI ((wide ns n (a, b)).1 ++ (stepF ns (wide ns n (a, b))).2) ↔ _
    rw [mem_ssetI, List.mem_append, h2, (wide_mem n x).1]
    constructor
    · rintro ((h | ⟨j, h1, h2, h3⟩) | h)
      · exact .inl h
      · exact .inr ⟨j, h1, by omega, h3⟩
      · exact .inr ⟨n + 1, by omega, by omega, h⟩
    · rintro (h | ⟨j, h1, h2, h3⟩)
      · exact .inl (.inl h)
      · by_cases e : j = n + 1
        · rw [e] at h3
          exact .inr h3
        · exact .inl (.inr ⟨j, h1, by omega, h3⟩)
theorem lwith_mem {ns : List (List Int)} {b : List Int} : ∀ (n : Nat) (x : Int), (x ∈ ((rngD 0 n).foldl (fun p (_ : Dt) => lstep ns p) (b, b)).1 ↔ Wt ns (· ∈ b) n x) ∧ (x ∈ ((rngD 0 n).foldl (fun p (_ : Dt) => lstep ns p) (b, b)).2 ↔ Rn ns (· ∈ b) n x)
  | 0, x => by
    refine ⟨⟨fun h => ⟨0, Nat.le_refl _, h⟩, fun ⟨j, hj, h⟩ => ?_⟩, Iff.rfl⟩
    cases Nat.le_zero.mp hj
    exact h
  | n + 1, x => by
    rw [fold_succ (lstep ns) (b, b) n]
    have h2 : x ∈ (lstep ns ((rngD 0 n).foldl (fun p (_ : Dt) => lstep ns p) (b, b))).2 ↔ Rn ns (· ∈ b) (n + 1) x := by
      show x ∈ lbey ns ((rngD 0 n).foldl (fun p (_ : Dt) => lstep ns p) (b, b)).2 ↔ _
      rw [lbey_mem]
      constructor
      · rintro ⟨s, h1, h2⟩
        exact ⟨s, (lwith_mem n s).2.mp h1, h2⟩
      · rintro ⟨s, h1, h2⟩
        exact ⟨s, (lwith_mem n s).2.mpr h1, h2⟩
    refine ⟨?_, h2⟩
    show x ∈ newer ((rngD 0 n).foldl (fun p (_ : Dt) => lstep ns p) (b, b)).1 (lstep ns ((rngD 0 n).foldl (fun p (_ : Dt) => lstep ns p) (b, b))).2 ↔ _
    rw [newer_mem, h2, (lwith_mem n x).1]
    constructor
    · rintro (⟨j, h1, h3⟩ | h)
      · exact ⟨j, by omega, h3⟩
      · exact ⟨n + 1, Nat.le_refl _, h⟩
    · rintro ⟨j, h1, h3⟩
      by_cases e : j = n + 1
      · rw [e] at h3
        exact .inr h3
      · exact .inl ⟨j, by omega, h3⟩
theorem Rn.head {ns : List (List Int)} {here : List Int} : ∀ (k : Nat) (x : Int), Rn ns (fun y => ∃ s ∈ here, y ∈ nxt ns s) k x ↔ ∃ s ∈ here, Rn ns (· ∈ [s]) (k + 1) x
  | 0, x => by
    constructor
    · rintro ⟨s, h1, h2⟩
      exact ⟨s, h1, s, List.mem_singleton.mpr rfl, h2⟩
    · rintro ⟨s, h1, t, h2, h3⟩
      have h2 := List.mem_singleton.mp h2
      subst h2
      exact ⟨t, h1, h3⟩
  | k + 1, x => by
    constructor
    · rintro ⟨s, h1, h2⟩
      obtain ⟨t, h3, h4⟩ := (Rn.head k s).mp h1
      exact ⟨t, h3, s, h4, h2⟩
    · rintro ⟨s, h1, t, h2, h3⟩
      exact ⟨t, (Rn.head k t).mpr ⟨s, h1, h2⟩, h3⟩
/-- the same states are seen -/
def Same (a b : Option (List Int)) : Prop := match a, b with
  | none, none => True
  | some x, some y => ∀ z, z ∈ x ↔ z ∈ y
  | _, _ => False
theorem may_same {ns : List (List Int)} (g : GoodN ns) {gap : Option Int} (gg : GoodG gap) {a b : Option (List Int)} (ga : GoodO ns a) (gb : GoodL ns b) (h : Same a b) (x : Int) : x ∈ mayBe ns gap a ↔ x ∈ lmay ns gap b := by
  obtain ⟨m1, m2⟩ := most_rg gg
  cases a with
  | none =>
    cases b with
    | some y => exact h.elim
    | none =>
      have h1 := (wide_mem (ns := ns) (a := [0]) (b := [0]) (most gap).toNat x).1
      have h2 := (lwith_mem (ns := ns) (b := [0]) (lmost gap).toNat x).1
      show x ∈ (wide ns (most gap).toNat ([0], [0])).1 ↔ x ∈ ((rngD 0 (lmost gap).toNat).foldl (fun p (_ : Dt) => lstep ns p) ([0], [0])).1
      rw [h1, h2, ← most_same g (fun x hx => by rw [List.mem_singleton.mp hx]; exact zero_in g) gg x]
      constructor
      · rintro (h | ⟨j, _, h3, h4⟩)
        · exact ⟨0, Nat.zero_le _, h⟩
        · exact ⟨j, h3, h4⟩
      · rintro ⟨j, h3, h4⟩
        cases j with
        | zero => exact .inl h4
        | succ j => exact .inr ⟨j + 1, by omega, h3, h4⟩
  | some u =>
    cases b with
    | none => exact h.elim
    | some v =>
      have hu := ga u rfl
      have h2 := (lwith_mem (ns := ns) (b := lbey ns v) (lmost gap).toNat x).1
      show x ∈ ssetI (u.flatMap fun s => aheadS ns s gap) ↔ x ∈ ((rngD 0 (lmost gap).toNat).foldl (fun p (_ : Dt) => lstep ns p) (lbey ns v, lbey ns v)).1
      rw [h2, mem_ssetI, List.mem_flatMap]
      have hS : ∀ y, (y ∈ lbey ns v) ↔ (∃ s ∈ u, y ∈ nxt ns s) := fun y => by
        rw [lbey_mem]
        constructor
        · rintro ⟨s, h1, h2⟩
          exact ⟨s, (h s).mpr h1, h2⟩
        · rintro ⟨s, h1, h2⟩
          exact ⟨s, (h s).mp h1, h2⟩
      rw [Wt.congr hS, ← most_same g (fun y ⟨s, h1, h2⟩ => g.rg _ (nxt_mem (hu.rg s h1)) y h2) gg x]
      constructor
      · rintro ⟨s, h1, h3⟩
        rcases (wide_mem (ns := ns) (a := []) (b := [s]) (most gap + 1).toNat x).1.mp h3 with h4 | ⟨j, h4, h5, h6⟩
        · simp at h4
        · obtain ⟨i, rfl⟩ : ∃ i, j = i + 1 := ⟨j - 1, by omega⟩
          exact ⟨i, by omega, (Rn.head i x).mpr ⟨s, h1, h6⟩⟩
      · rintro ⟨j, h1, h3⟩
        obtain ⟨s, h4, h5⟩ := (Rn.head j x).mp h3
        exact ⟨s, h4, (wide_mem (ns := ns) (a := []) (b := [s]) (most gap + 1).toNat x).1.mpr (.inr ⟨j + 1, by omega, by omega, h5⟩)⟩
theorem stand_same {ns : List (List Int)} (g : GoodN ns) {ps : List Int} {gap : Option Int} (gg : GoodG gap) : ∀ (film : List Int) {a b : Option (List Int)}, GoodO ns a → GoodL ns b → Same a b → Same (film.foldl (fun here p => some (seeS ns ps gap here p)) a) (film.foldl (fun here p => some (lsee ns ps gap here p)) b)
  | [], a, b, _, _, h => h
  | p :: film, a, b, ga, gb, h => by
    refine stand_same g gg film (a := some (seeS ns ps gap a p)) (b := some (lsee ns ps gap b p)) (fun l hl => by cases hl; exact seeS_ok g gap ga) (fun l hl => by cases hl; exact Once.lsee g gb gap ps p) fun z => ?_
    unfold seeS lsee
    rw [(sortI_perm _).mem_iff, List.mem_filter, List.mem_filter, may_same g gg ga gb h]
theorem fromS_ne {ns : List (List Int)} (gap : Option Int) : (fromS ns gap).isEmpty = false := by
  have : (0 : Int) ∈ fromS ns gap := (wide_mem (ns := ns) (a := [0]) (b := [0]) (most gap).toNat 0).1.mpr (.inl (by simp))
  cases h : fromS ns gap with
  | nil => rw [h] at this; simp at this
  | cons a l => rfl
end K63

set_option Elab.async false
set_option linter.all false
set_option maxRecDepth 100000
set_option maxHeartbeats 4000000
/-! DlMore: a for that ends at its first find; is, is not of bools; len of a new list's comprehension. -/
namespace Dl
open PySem PySem.Spec PyProof.Rows L2
section
variable {T : Tbs} {X : Cx} {W : WX} {tg : Expr} {body : List Stmt} {G : List Cell} {mu : List Dt}
theorem for_find {α : Type} (t : α → Dt) (q : α → Bool) (r : α → Dt) : ∀ {l : List α}, (∀ a ∈ l, ∃ (G1 : List Cell) (ix : List Nat), PG X tg (rdG X.K T G mu (t a) G1 ix) ∧ (q a = true → SDs T X W G1 mu body (.ret (.dat (r a)) mu)) ∧ (q a = false → ∃ G2, SDs T X W G1 mu body (.nx G2 mu) ∧ Wk G G2)) →
    ForTo T X W tg body (l.map t) G mu (match l.find? q with | some a => .ret (.dat (r a)) mu | none => .nx G mu)
  | [], _ => .nil
  | a :: l, h => by
    obtain ⟨G1, ix, h1, h2, h3⟩ := h a List.mem_cons_self
    rw [List.find?_cons]
    cases e : q a with
    | true => exact .ret h1 (h2 e)
    | false =>
      obtain ⟨G2, h4, h5⟩ := h3 e
      exact .next h1 (ss_weak h4 h5) (for_find t q r fun b hb => h b (List.mem_cons_of_mem _ hb))
/-- a for that ends the def at its first find, and the rest -/
theorem ss_find {α : Type} {iter : Expr} {pos : Pos} {rest : List Stmt} {o : SOut} {mu0 : List Dt} (t : α → Dt) (q : α → Bool) (r : α → Dt) (l : List α) (hp : PassesOwn (model X.prog X.w) X.A X.env X.xe) (hc : X.calm = true) (hi : EvI T X G mu0 tg iter (l.map t) mu)
    (h : ∀ a ∈ l, ∃ (G1 : List Cell) (ix : List Nat), PG X tg (rdG X.K T G mu (t a) G1 ix) ∧ (q a = true → SDs T X W G1 mu body (.ret (.dat (r a)) mu)) ∧ (q a = false → ∃ G2, SDs T X W G1 mu body (.nx G2 mu) ∧ Wk G G2))
    (hs : ∀ a, l.find? q = some a → o = .ret (.dat (r a)) mu) (hr : l.find? q = none → SDs T X W G mu rest o) (hf : ∀ x, foldedSetIterable iter X.env x = pure x := by intro _; rfl) : SDs T X W G mu0 (.For tg iter body [] pos :: rest) o := by
  have k := sd_for (pos := pos) hp hc hi (for_find (W := W) (body := body) t q r h) hf
  cases e : l.find? q with
  | none =>
    rw [e] at k
    exact ss_cons k (hr e)
  | some a =>
    rw [e] at k
    rw [hs a e]
    exact ss_stop k
/-- if c: return e -/
theorem if_ret {c e : Expr} {k : Bool} {d : Dt} {p pos : Pos} {G0 : List Cell} (ht : EvT T X G mu c k mu) (he : EvD T X G mu e (.dat d) mu) (hw : Wk G0 G) :
    (k = true → SDs T X W G mu [.If c [.Return (some e) p] [] pos] (.ret (.dat d) mu)) ∧ (k = false → ∃ G2, SDs T X W G mu [.If c [.Return (some e) p] [] pos] (.nx G2 mu) ∧ Wk G0 G2) :=
  ⟨fun hk => ss_one (sifT ht (ss_one (sd_ret he)) hk), fun hk => ⟨_, ss_one (sif0 ht hk), hw⟩⟩
end
section
variable {T : Tbs} {X : Cx} {G : List Cell} {mu mu1 mu2 : List Dt} {a b : Expr} {pos : Pos} {x y : Bool}
theorem ev_isB (ha : EvD T X G mu a (.dat (.bl x)) mu1) (hb : EvD T X G mu1 b (.dat (.bl y)) mu2) (hm : behindInMarks .Is b = false := by rfl) : EvD T X G mu (.Compare a [.Is] [b] pos) (.dat (.bl (decide (x = y)))) mu2 :=
  ev_cmp op_isBl (op2_val (d1 := .bl x) (d2 := .bl y) rfl rfl fun F fi H v u Q s h1 h2 q => ⟨x, y, h1.bl, h2.bl, q _ (.bl _)⟩) hm ha hb
theorem ev_isnB (ha : EvD T X G mu a (.dat (.bl x)) mu1) (hb : EvD T X G mu1 b (.dat (.bl y)) mu2) (hm : behindInMarks .IsNot b = false := by rfl) : EvD T X G mu (.Compare a [.IsNot] [b] pos) (.dat (.bl (!decide (x = y)))) mu2 :=
  ev_cmp op_notBl (op2_val (d1 := .bl x) (d2 := .bl y) rfl rfl fun F fi H v u Q s h1 h2 q => ⟨x, y, h1.bl, h2.bl, q _ (.bl _)⟩) hm ha hb
end
end Dl

set_option Elab.async false
set_option linter.all false
set_option maxRecDepth 100000
set_option maxHeartbeats 4000000
/-! DlDict: dicts. -/
namespace Dl
open PySem PySem.Spec PyProof.Rows L2
/-- a dict whose keys are ints and texts -/
def dicK (kvs : List (Key × Dt)) : Dt := .dic false (kvs.map fun p => keyD p.1) (kvs.map (·.2))
theorem keyD_inj {a b : Key} (h : keyD a = keyD b) : a = b := by
  cases a <;> cases b <;> cases h <;> rfl
section
variable {K : PySem.W.Frag} {T : Tbs} {B : Bs} {F : Hp} {fi : List Addr} {sg : L2.St} {H : Hp} {G : List Cell} {mu : List Dt}
theorem DE.newD (e : DE K T B F fi sg H G mu) {p : Addr} (hp : H p = none) {t : Bool} {u : HO} {ks ds : List Dt} {ka vs : List V} (k : DkO t p u ks ka vs) (hk : RpL K F fi ka ks) (h : RpL K F fi vs ds) :
    DE K T B F fi sg (upd H p u) G mu ∧ RpR K B F fi sg (upd H p u) G (.ref p) (.new (.dic t ks ds)) := by
  obtain ⟨h1, h2, h3, h4, h5⟩ := e.put hp u
  exact ⟨h1, p, rfl, h2, ⟨u, ka, vs, upd_same, k, hk, h⟩, h3, h4, h5⟩
/-- the object of a slot is changed -/
theorem DE.chgO {i : Nat} {m0 m1 : Dt} {u' : HO} (e : DE K T B F fi sg H G mu) {p : Addr} (h : G[i]? = some (.own m0)) (hp : sg[i]? = some (some (.ref p))) (hr : Ob K F fi (upd H p u') p m1) : DE K T B F fi sg (upd H p u') (G.set i (.own m1)) mu := by
  obtain ⟨q, h1, h2, h5, h4⟩ := e.own i _ h
  rw [hp] at h1
  cases h1
  have hlt : i < G.length := (List.getElem?_eq_some_iff.mp h).1
  obtain ⟨o5, h3, h6⟩ := h5.some
  have pT : p ∉ T := e.tabne h3 h6
  have at' : ∀ {j : Nat} {m : Dt}, (G.set i (.own m1))[j]? = some (.own m) → ∃ m', G[j]? = some (.own m') ∧ (j = i ∧ m = m1 ∨ j ≠ i ∧ m' = m) := fun {j m} hj => by
    by_cases z : j = i
    · subst z
      obtain ⟨z1, _⟩ := set_eq hj
      cases z1
      exact ⟨_, h, .inl ⟨rfl, rfl⟩⟩
    · rw [set_ne z] at hj
      exact ⟨m, hj, .inr ⟨z, rfl⟩⟩
  refine ⟨fun a u q => ?_, fun q hq => ?_, by rw [List.length_set]; exact e.len, e.lenm, fun j d hj => ?_, fun j m hj => ?_, fun j a m q y => ?_, fun a b m n q h1 h2 => ?_, fun a m q j h1 => ?_, e.mm, fun a u q h1 h2 => ?_, e.fold, e.fpre, e.fnew⟩
  · have z : a ≠ p := fun z => by rw [z, h2] at q; cases q
    rw [upd_ne z]
    exact e.sub a u q
  · obtain ⟨h1, ps, h3, h4⟩ := e.tab q hq
    have z : q ≠ p := fun z => pT (by rw [← z]; exact hq)
    exact ⟨h1, ps, by rw [upd_ne z]; exact h3, h4⟩
  · have z : j ≠ i := fun z => by
      subst z
      have := (set_eq hj).1
      cases this
    rw [set_ne z] at hj
    exact e.slot j d hj
  · obtain ⟨m', g1, g2⟩ := at' hj
    obtain ⟨q, k1, k2, k3, k4⟩ := e.own j m' g1
    rcases g2 with ⟨rfl, rfl⟩ | ⟨z, rfl⟩
    · rw [hp] at k1
      cases k1
      exact ⟨p, hp, k2, hr, k4⟩
    · have z2 : q ≠ p := fun y => z (e.oo j i _ _ p g1 h (by rw [← y]; exact k1) hp)
      exact ⟨q, k1, k2, k3.mono (Sub.refl F) (List.prefix_refl _) (upd_ne z2), k4⟩
  · obtain ⟨b, c⟩ := e.obj j a m q y
    have z : a ≠ p := fun z => e.om i _ p j h hp (by rw [← z]; exact q)
    exact ⟨b, c.mono (Sub.refl F) (List.prefix_refl _) (upd_ne z)⟩
  · obtain ⟨m', g1, _⟩ := at' h1
    obtain ⟨n', g2, _⟩ := at' h2
    exact e.oo a b m' n' q g1 g2
  · obtain ⟨m', g1, _⟩ := at' h1
    exact e.om a m' q j g1
  · have z : a ≠ p := fun z => by rw [z, h4] at q; cases q
    rw [upd_ne z]
    exact e.frame a u q h1 h2
end
section
variable {T : Tbs} {X : Cx} {G : List Cell} {mu : List Dt} {pos : Pos}
theorem ev_dict0K : EvD T X G mu (.Dict [] [] pos) (.new (dicK [])) mu :=
  pe_imp pe_dnewK fun sg H Q ⟨B, F, fi, e, q⟩ p hp => by
    obtain ⟨h1, h2⟩ := e.newD hp (t := false) (u := .dK []) (ks := []) (ka := []) (vs := []) (ds := []) ⟨rfl, rfl, rfl⟩ .nil .nil
    exact q _ F fi _ (Sub.refl F) (List.prefix_refl _) h1 h2
end
/-- in its place, or at the end -/
def putA {κ : Type} [DecidableEq κ] (kvs : List (κ × Dt)) (k : κ) (d : Dt) : List (κ × Dt) :=
  if (kvs.any fun kv => decide (kv.1 = k)) = true then kvs.map (fun kv => if kv.1 = k then (kv.1, d) else kv) else kvs ++ [(k, d)]
section
variable {K : PySem.W.Frag} {F : Hp} {fi : List Addr} {κ : Type} [DecidableEq κ]
/-- the same keys; the values are the data -/
inductive KvD (K : PySem.W.Frag) (F : Hp) (fi : List Addr) : List (κ × V) → List (κ × Dt) → Prop
  | nil : KvD K F fi [] []
  | cons {k : κ} {v : V} {d : Dt} {xs : List (κ × V)} {ys : List (κ × Dt)} : Rp K F fi v d → KvD K F fi xs ys → KvD K F fi ((k, v) :: xs) ((k, d) :: ys)
theorem KvD.any {xs : List (κ × V)} {ys : List (κ × Dt)} (h : KvD K F fi xs ys) (k : κ) : (xs.any fun kv => decide (kv.1 = k)) = ys.any fun kv => decide (kv.1 = k) := by
  induction h with
  | nil => rfl
  | cons _ _ ih => rw [List.any_cons, List.any_cons, ih]
theorem KvD.app {xs : List (κ × V)} {ys : List (κ × Dt)} (h : KvD K F fi xs ys) {k : κ} {v : V} {d : Dt} (r : Rp K F fi v d) : KvD K F fi (xs ++ [(k, v)]) (ys ++ [(k, d)]) := by
  induction h with
  | nil => exact .cons r .nil
  | cons q _ ih => exact .cons q ih
theorem KvD.repl {xs : List (κ × V)} {ys : List (κ × Dt)} (h : KvD K F fi xs ys) {k : κ} {v : V} {d : Dt} (r : Rp K F fi v d) : KvD K F fi (xs.map fun kv => if kv.1 = k then (kv.1, v) else kv) (ys.map fun kv => if kv.1 = k then (kv.1, d) else kv) := by
  induction h with
  | nil => exact .nil
  | @cons k' v' d' xs ys q _ ih =>
    rw [List.map_cons, List.map_cons]
    by_cases z : k' = k
    · rw [if_pos z, if_pos z]
      exact .cons r ih
    · rw [if_neg z, if_neg z]
      exact .cons q ih
theorem KvD.put {xs : List (κ × V)} {ys : List (κ × Dt)} (h : KvD K F fi xs ys) (k : κ) {v : V} {d : Dt} (r : Rp K F fi v d) : KvD K F fi (putK xs k v) (putA ys k d) := by
  unfold putK putA
  rw [h.any k]
  split
  · exact h.repl r
  · exact h.app r
end
section
variable {K : PySem.W.Frag} {F : Hp} {fi : List Addr}
theorem KvD.rpl {κ : Type} [DecidableEq κ] {xs : List (κ × V)} {ys : List (κ × Dt)} (h : KvD K F fi xs ys) : RpL K F fi (xs.map (·.2)) (ys.map (·.2)) ∧ xs.map (·.1) = ys.map (·.1) := by
  induction h with
  | nil => exact ⟨.nil, rfl⟩
  | cons q _ ih => exact ⟨.cons q ih.1, by rw [List.map_cons, List.map_cons, ih.2]⟩
theorem KvD.of {κ : Type} [DecidableEq κ] {f : κ → Dt} (inj : ∀ a b, f a = f b → a = b) : ∀ {xs : List (κ × V)} {ys : List (κ × Dt)}, ys.map (fun p => f p.1) = xs.map (fun p => f p.1) → RpL K F fi (xs.map (·.2)) (ys.map (·.2)) → KvD K F fi xs ys
  | [], [], _, _ => .nil
  | [], _ :: _, h, _ => by cases h
  | _ :: _, [], h, _ => by cases h
  | (k, v) :: xs, (k', d) :: ys, h, r => by
    have h1 := (List.cons.inj h).1
    have e : k' = k := inj _ _ h1
    subst e
    cases r with
    | cons q r => exact .cons q (KvD.of inj (List.cons.inj h).2 r)
theorem keys_rp {K : PySem.W.Frag} {F : Hp} {fi : List Addr} : ∀ ks : List Key, RpL K F fi (ks.map kV) (ks.map keyD)
  | [] => .nil
  | .inl i :: ks => .cons (.int i) (keys_rp ks)
  | .inr x :: ks => .cons (.str x) (keys_rp ks)
theorem ob_viewK {H : Hp} {p : Addr} {kvs : List (Key × Dt)} (h : Ob K F fi H p (Dl.dicK kvs)) : ∃ xs, H p = some (.dK xs) ∧ KvD K F fi xs kvs := by
  obtain ⟨u, ka, vs, h1, h2, _, h3⟩ := h
  cases u with
  | dK xs =>
    obtain ⟨h4, _, rfl⟩ := h2
    exact ⟨xs, h1, KvD.of (fun _ _ => keyD_inj) h4 h3⟩
  | _ => exact h2.elim
theorem ob_ofK {H : Hp} {p : Addr} {xs : List (Key × V)} {kvs : List (Key × Dt)} (h : H p = some (.dK xs)) (k : KvD K F fi xs kvs) : Ob K F fi H p (Dl.dicK kvs) := by
  have e := congrArg (List.map keyD) k.rpl.2
  rw [List.map_map, List.map_map] at e
  refine ⟨.dK xs, xs.map fun p => kV p.1, xs.map (·.2), h, ⟨e.symm, rfl, rfl⟩, ?_, k.rpl.1⟩
  have q := keys_rp (K := K) (F := F) (fi := fi) (xs.map (·.1))
  rw [List.map_map, List.map_map] at q
  have e2 : kvs.map (fun p => keyD p.1) = xs.map fun p => keyD p.1 := e.symm
  rw [e2]
  exact q
end
section
variable {T : Tbs} {X : Cx} {W : WX} {G : List Cell} {mu mu1 mu2 : List Dt} {e o kx : Expr} {d : Dt} {pos pos' : Pos}
/-- d[k] = e on an own dict -/
theorem sd_dputK {kvs : List (Key × Dt)} {k : Key} (i : Nat) (hu : X.A.units + 1 < cLine) (he : EvD T X G mu e (.dat d) mu1) (ho : EvD T X G mu1 o (.bor i) mu1) (hk : EvD T X G mu1 kx (.dat (keyD k)) mu2) (hG : G[i]? = some (.own (dicK kvs))) (hl : kvs.length < 1000000)
    (hs : swapsWith e (some (.Subscript o kx pos')) pos.line X.env = pure false := by rfl) : SD T X W G mu (.Assign [.Subscript o kx pos'] e pos) (.nx (G.set i (.own (dicK (putA kvs k d)))) mu2) := by
  refine ps_imp (ps_dput hu ho hk he hs) fun D sg H ⟨B, F, fi, e0, q⟩ => ⟨B, F, fi, e0, fun v F1 fi1 H1 s1 p1 e1 h1 => ?_⟩
  refine ⟨B, F1, fi1, e1, fun x F2 fi2 H2 s2 p2 e2 h2 => ⟨B, F2, fi2, e2, fun y F3 fi3 H3 s3 p3 e3 h3 => ?_⟩⟩
  obtain ⟨p, g1, g2, g3, g4⟩ := e3.own i _ hG
  obtain ⟨g5, _⟩ := h2
  rw [g1] at g5
  cases g5
  obtain ⟨xs, g6, g7⟩ := ob_viewK g3
  have hv : Rp X.K F3 fi3 v d := Rp.mono (s2.trans s3) (p2.trans p3) h1
  have hy : y = kV k := by
    cases k <;> (cases h3; rfl)
  have hlen : xs.length < sizeLine := by
    have := congrArg List.length g7.rpl.2
    rw [List.length_map, List.length_map] at this
    rw [sizeLine_eq]
    omega
  subst hy
  refine ⟨p, _, rfl, DPut.k g6 hlen, ?_⟩
  exact q F3 fi3 _ _ (s1.trans (s2.trans s3)) (p1.trans (p2.trans p3)) (e3.chgO hG g1 (ob_ofK upd_same (g7.put k hv)))
end
section
variable {T : Tbs} {X : Cx} {G : List Cell} {mu mu1 : List Dt} {e : Expr} {r : Res} {pos p : Pos}
/-- list(d): its keys -/
theorem ev_listK {kvs : List (Key × Dt)} (hc : X.calm = true) (h : EvD T X G mu e r mu1) (hm : X.mg "list" = none) (l : look G r = some (dicK kvs)) (hg : Gl X "list" := by rfl) (he : starEach [e] X.env = (false, eval e X.env) :: starEach [] X.env := by rfl) :
    EvD T X G mu (.Call (.Name "list" p) [e] [] pos) (.new (.lst (kvs.map fun q => keyD q.1))) mu1 := by
  refine ev_Ty (call_list_dK hc) (cd_new l fun F fi H v Q s hv q => ?_) (ea_cons h ea_nil he) hm PyProof.Rows.boot_list hg (by decide) (by decide) he
  obtain ⟨a, u, ka, vs, rfl, h1, h2, _, h3⟩ := hv.dic s
  cases u with
  | dK xs =>
    obtain ⟨h4, _, rfl⟩ := h2
    have k := KvD.of (fun _ _ => keyD_inj) h4 h3
    refine ⟨a, xs, rfl, h1, fun l hl => q l _ hl ?_⟩
    have e1 := congrArg (List.map kV) k.rpl.2
    rw [List.map_map, List.map_map] at e1
    have m := keys_rp (K := X.K) (F := F) (fi := fi) (kvs.map (·.1))
    rw [List.map_map, List.map_map] at m
    have e2 : (xs.map fun kv => kV kv.1) = kvs.map fun kv => kV kv.1 := e1
    rw [e2]
    exact m
  | _ => exact h2.elim
end
section
variable {T : Tbs} {X : Cx} {W : WX} {G : List Cell} {mu mu1 mu2 : List Dt} {a b e : Expr} {d : Dt} {ds : List Dt} {pos : Pos}
/-- l[k] = e on an own list -/
theorem sd_setO {n : Nat} {k : Int} {tpos : Pos} (i : Nat) (he : EvD T X G mu e (.dat d) mu1) (ho : EvD T X G mu1 a (.bor i) mu1) (hi : EvD T X G mu1 b (.dat (.int k)) mu2) (hG : G[i]? = some (.own (.lst ds))) (hk : ixN ds.length k = some n)
    (hs : swapsWithSole [.Subscript a b tpos] e pos.line X.env = pure false := by rfl) (hw : swappedStores [.Subscript a b tpos] e X.env = pure none := by rfl) (h1 : (assignEach [.Subscript a b tpos] X.env).map (·.2) = [assign (.Subscript a b tpos) X.env] := by rfl)
    (hpg : ∀ v, assign (.Subscript a b tpos) X.env v = (do
      let ov ← holding [v] (eval a X.env)
      let iv ← holding [v, ov] (eval b X.env)
      standAt tpos
      holding [v, ov, iv] (setItem ov iv v)
      release [v, ov, iv] []) := by intro _; rfl) : SD T X W G mu (.Assign [.Subscript a b tpos] e pos) (.nx (G.set i (.own (.lst (ds.set n d)))) mu2) := by
  refine ps_imp (ps_asg he (pg_sub ho hi set_list hpg) hs hw h1) fun D sg H ⟨B, F, fi, e, q⟩ => ⟨B, F, fi, e, fun v F1 fi1 H1 s1 p1 e1 h1 => ?_⟩
  refine ⟨B, F1, fi1, e1, fun o F2 fi2 H2 s2 p2 e2 h2 => ⟨B, F2, fi2, e2, fun j F3 fi3 H3 s3 p3 e3 h3 => ?_⟩⟩
  obtain ⟨p, g1, g2, ⟨vs, f2, mm⟩, g4⟩ := e3.own i _ hG
  obtain ⟨g5, _⟩ := h2
  rw [g1] at g5
  cases g5
  cases h3
  refine ⟨_, vs, k, n, rfl, rfl, f2, by rw [mm.length]; exact hk, ?_⟩
  exact q F3 fi3 sg _ ((s1.trans s2).trans s3) ((p1.trans p2).trans p3) (e3.chg hG g1 (mm.set (Rp.mono (s2.trans s3) (p2.trans p3) h1) n))
end
section
variable {T : Tbs} {X : Cx} {G : List Cell} {mu mu1 : List Dt} {e : Expr} {r : Res} {pos p : Pos}
/-- int(b) -/
theorem ev_intB {k : Bool} (h : EvD T X G mu e r mu1) (hm : X.mg "int" = none) (l : look G r = some (.bl k) := by rfl) (hg : Gl X "int" := by rfl) (he : starEach [e] X.env = (false, eval e X.env) :: starEach [] X.env := by rfl) :
    EvD T X G mu (.Call (.Name "int" p) [e] [] pos) (.dat (.int (if k then 1 else 0))) mu1 :=
  ev_Ty call_int1 (cd_one l fun F fi H v Q s hv q => .inr ⟨k, by rw [hv.bl], q _ (.int _)⟩) (ea_cons h ea_nil he) hm PyProof.Rows.boot_int hg (by decide) (by decide) he
end
section
variable {T : Tbs} {X : Cx} {W : WX} {G : List Cell} {mu mu1 mu2 : List Dt} {a b : Expr} {d1 m2 : Dt} {pos : Pos} {x y : Str}
/-- x, y = a, b: y becomes the name of an own new object -/
theorem sd_parN {px py pt pt2 : Pos} {kt k2 : Nat} (hc : X.calm = true) (hN : X.N.Nodup) (i j : Nat) (h1 : EvD T X G mu a (.dat d1) mu1) (h2 : EvD T X G mu1 b (.new m2) mu2) (hi : X.N[i]? = some x := by rfl) (hj : X.N[j]? = some y := by rfl) (hij : i ≠ j := by decide)
    (hx : X.env.scope.names.lookup x = some .local := by rfl) (hy : X.env.scope.names.lookup y = some .local := by rfl)
    (he : starEach [a, b] X.env = (false, eval a X.env) :: starEach [b] X.env := by rfl) (he2 : starEach [b] X.env = (false, eval b X.env) :: starEach [] X.env := by rfl)
    (hw : swappedStores [.Tuple [.Name x px, .Name y py] kt pt] (.Tuple [a, b] k2 pt2) X.env = pure (some [x, y]) := by rfl)
    (hs : swapsWithSole [.Tuple [.Name x px, .Name y py] kt pt] (.Tuple [a, b] k2 pt2) pos.line X.env = pure false := by rfl) :
    SD T X W G mu (.Assign [.Tuple [.Name x px, .Name y py] kt pt] (.Tuple [a, b] k2 pt2) pos) (.nx ((G.set j (.own m2)).set i (.val d1)) mu2) := by
  refine ps_imp (ps_par hc hN hi hj hij hx hy (pa_cons h1 (pa_cons h2 pa_nil he2) he) hw hs) fun D sg H ⟨B, F, fi, e, q⟩ => ⟨B, F, fi, e, fun v F1 fi1 H1 s1 p1 e1 r1 => ?_⟩
  refine ⟨B, F1, fi1, e1, fun w F2 fi2 H2 s2 p2 e2 r2 => ?_⟩
  have r1' : Rp X.K F2 fi2 v d1 := Rp.mono s2 p2 r1
  refine ⟨v, w, rfl, ?_⟩
  have k := (e2.setO (i := j) r2).setV (i := i) r1'
  rw [List.set_comm _ _ (fun z => hij z.symm)] at k
  exact q F2 fi2 _ H2 (s1.trans s2) (p1.trans p2) k
end
section
variable {T : Tbs} {X : Cx} {G : List Cell} {mu mu1 : List Dt} {e : Expr} {r : Res} {d : Dt} {pos p p2 p3 tpos : Pos}
/-- isinstance(e, (x, y)), built-in types -/
theorem ev_isi2 {x y : Str} {n m1 m2 : String} {b1 b2 : Bool} {k : Nat} (h : EvD T X G mu e r mu1) (hm : X.mg "isinstance" = none) (hmx : X.mg x = none) (hmy : X.mg y = none) (hv : bootBuiltins x = some (.type m1)) (hv2 : bootBuiltins y = some (.type m2)) (hn : tyN d = some n) (hk : kitB n m1 = some b1) (hk2 : kitB n m2 = some b2)
    (l : look G r = some d := by rfl) (hg : Gl X "isinstance" := by rfl) (hgx : Gl X x := by rfl) (hgy : Gl X y := by rfl) (hnx : x ≠ "__name__" := by decide) (hdx : (x == ("__debug__" : Str)) = false := by decide) (hny : y ≠ "__name__" := by decide) (hdy : (y == ("__debug__" : Str)) = false := by decide)
    (ht1 : starEach [.Name x p2, .Name y p3] X.env = (false, eval (.Name x p2) X.env) :: starEach [.Name y p3] X.env := by rfl) (ht2 : starEach [.Name y p3] X.env = (false, eval (.Name y p3) X.env) :: starEach [] X.env := by rfl)
    (he : starEach [e, .Tuple [.Name x p2, .Name y p3] k tpos] X.env = (false, eval e X.env) :: starEach [.Tuple [.Name x p2, .Name y p3] k tpos] X.env := by rfl) (he2 : starEach [.Tuple [.Name x p2, .Name y p3] k tpos] X.env = (false, eval (.Tuple [.Name x p2, .Name y p3] k tpos) X.env) :: starEach [] X.env := by rfl) (hpl : (backTo pos (starEach [.Tuple [.Name x p2, .Name y p3] k tpos] X.env)).any (·.1) = false := by rfl) :
    EvD T X G mu (.Call (.Name "isinstance" p) [e, .Tuple [.Name x p2, .Name y p3] k tpos] [] pos) (.dat (.bl (b1 || b2))) mu1 := by
  refine ev_B call_isiT (fun B F fi sg H vs Q e m q => ?_) (ea_cons h (ea_cons (ev_tup (ds := [.obj (.ty m1), .obj (.ty m2)]) (ea_cons (ev_ty hmx hv hgx hnx hdx) (ea_cons (ev_ty hmy hv2 hgy hny hdy) ea_nil ht2) ht1) (.dat (.dat .nil)) (by simp)) ea_nil he2) he) hm PyProof.Rows.boot_isinstance hg (by decide) (by decide) he hpl
  cases m with
  | cons q1 q2 =>
    cases q2 with
    | cons q2 q3 =>
      cases q3
      cases q2 with
      | tup g qq =>
        cases qq with
        | cons a1 qq => cases qq with
          | cons a2 qq =>
            cases qq
            cases a1
            cases a2
            refine ⟨_, _, _, _, [.type m1, .type m2], b1 || b2, rfl, e.sub _ _ g, .cons (.ty m1) (.cons (.ty m2) .nil), (e.viewH q1 l).tyx e.sub hn, ?_, q _ F fi H (Sub.refl F) (List.prefix_refl _) e (.bl _)⟩
            have k1 := kit_ty (K := X.K) hk
            have k2 := kit_ty (K := X.K) hk2
            unfold PySem.W.kitAny
            rw [k1]
            cases b1 with
            | true => rfl
            | false =>
              show PySem.W.kitAny X.K _ [_] = _
              unfold PySem.W.kitAny
              rw [k2]
              cases b2 <;> rfl
end
end Dl

set_option Elab.async false
set_option linter.all false
set_option maxRecDepth 100000
set_option maxHeartbeats 4000000
/-! DlRev: range(i, j, -1). -/
namespace Dl
open PySem PySem.Spec PyProof.Rows L2
/-- i, i - 1, .. -/
def dwnD (i : Int) (n : Nat) : List Dt := (List.range n).map fun k : Nat => Dt.int (i + (k : Int) * (-1))
section
variable {K : PySem.W.Frag} {F : Hp} {fi : List Addr}
theorem Feeds.dwn {lo : Int} {n : Nat} : Feeds K (Itc lo (-1) n) F fi (dwnD lo n) where
  go := fun i d H s hi => by
    unfold dwnD at hi
    rw [List.getElem?_map] at hi
    have hn : i < n := by
      cases q : (List.range n)[i]? with
      | none => rw [q] at hi; cases hi
      | some j =>
        have := (List.getElem?_eq_some_iff.mp q).1
        rwa [List.length_range] at this
    rw [List.getElem?_range hn] at hi
    cases hi
    refine ⟨hn, fun x H' y => .inl ⟨y.1, ?_⟩⟩
    rw [y.2]
    exact .int _
  stop := fun H s => by
    unfold dwnD
    rw [List.length_map, List.length_range]
    exact Nat.le_refl n
end
section
variable {T : Tbs} {X : Cx} {G : List Cell} {mu mu1 mu2 mu3 : List Dt} {a b e : Expr} {r1 r2 r3 : Res} {tg : Expr} {p pos : Pos}
/-- range(a, b, -1) -/
theorem ei_dwn {i j : Int} (ha : EvD T X G mu a r1 mu1) (hb : EvD T X G mu1 b r2 mu2) (hc : EvD T X G mu2 e r3 mu3) (hm : X.mg "range" = none) (h0 : -(2 ^ 62) ≤ i ∧ i < 2 ^ 62 ∧ -(2 ^ 62) ≤ j ∧ j < 2 ^ 62) (l1 : look G r1 = some (.int i) := by rfl) (l2 : look G r2 = some (.int j) := by rfl) (l3 : look G r3 = some (.int (-1)) := by rfl) (hg : Gl X "range" := by rfl)
    (hs : starEach [a, b, e] X.env = (false, eval a X.env) :: starEach [b, e] X.env := by rfl) (hs2 : starEach [b, e] X.env = (false, eval b X.env) :: starEach [e] X.env := by rfl) (hs3 : starEach [e] X.env = (false, eval e X.env) :: starEach [] X.env := by rfl) (hpl : (backTo pos (starEach [b, e] X.env)).any (·.1) = false := by rfl) :
    EvI T X G mu tg (.Call (.Name "range" p) [a, b, e] [] pos) (dwnD i (i - j).toNat) mu3 := by
  refine pi_imp (pi_range3 hg hm (ea_cons ha (ea_cons hb (ea_cons hc ea_nil hs3) hs2) hs) hs hpl) fun sg H R ⟨B, F, fi, e, q⟩ => ⟨B, F, fi, e, fun vs F1 fi1 H1 s1 p1 e1 m1 => ?_⟩
  cases m1 with
  | cons m1 m2 =>
    cases m2 with
    | cons m2 m3 =>
      cases m3 with
      | cons m3 m4 =>
        cases m4
        have ev := (e1.viewH m1 l1).int
        have eu := (e1.viewH m2 l2).int
        have ew := (e1.viewH m3 l3).int
        subst ev eu ew
        exact ⟨i, j, -1, _, rfl, RgC.neg h0.1 h0.2.1 h0.2.2.1 h0.2.2.2, q F1 fi1 H1 _ s1 p1 e1 .dwn⟩
end
theorem dwnD_rev (n : Nat) : dwnD (n : Int) (n + 1) = ((upToN (n + 1)).reverse).map Dt.int := by
  refine List.ext_getElem? fun k => ?_
  unfold dwnD upToN
  rw [List.getElem?_map, List.getElem?_map]
  by_cases h : k < n + 1
  · rw [List.getElem?_range h, List.getElem?_reverse (by rw [List.length_map, List.length_range]; exact h), List.getElem?_map, List.length_map, List.length_range, List.getElem?_range (by omega)]
    refine congrArg (fun z => some (Dt.int z)) ?_
    show (n : Int) + (k : Int) * (-1) = 0 + (((n + 1 - 1 - k : Nat)) : Int)
    omega
  · rw [List.getElem?_eq_none (by rw [List.length_range]; omega), List.getElem?_eq_none (by rw [List.length_reverse, List.length_map, List.length_range]; omega)] <;> rfl
/-- the last find from behind is the first -/
theorem fold_find (q : Int → Bool) : ∀ l : List Int, (l.reverse).foldl (fun o m => if q m = true then some m else o) none = l.find? q
  | [] => rfl
  | a :: l => by
    rw [List.reverse_cons, List.foldl_append, fold_find q l, List.find?_cons]
    show (if q a = true then some a else l.find? q) = _
    cases q a <;> rfl
section
variable {T : Tbs} {X : Cx} {G : List Cell} {mu mu1 : List Dt} {r : Res} {d : Dt} {e : Expr} {pos p p2 p3 tpos : Pos}
/-- isinstance(e, (tuple, list)) -/
theorem ev_isTL {k : Nat} (h : EvD T X G mu e r mu1) (hm : X.mg "isinstance" = none) (hmx : X.mg "tuple" = none) (hmy : X.mg "list" = none) (l : look G r = some d := by rfl) (hn : (tyN d).isSome = true := by rfl) (hg : Gl X "isinstance" := by rfl) (hgx : Gl X "tuple" := by rfl) (hgy : Gl X "list" := by rfl)
    (ht1 : starEach [.Name "tuple" p2, .Name "list" p3] X.env = (false, eval (.Name "tuple" p2) X.env) :: starEach [.Name "list" p3] X.env := by rfl) (ht2 : starEach [.Name "list" p3] X.env = (false, eval (.Name "list" p3) X.env) :: starEach [] X.env := by rfl)
    (he : starEach [e, .Tuple [.Name "tuple" p2, .Name "list" p3] k tpos] X.env = (false, eval e X.env) :: starEach [.Tuple [.Name "tuple" p2, .Name "list" p3] k tpos] X.env := by rfl) (he2 : starEach [.Tuple [.Name "tuple" p2, .Name "list" p3] k tpos] X.env = (false, eval (.Tuple [.Name "tuple" p2, .Name "list" p3] k tpos) X.env) :: starEach [] X.env := by rfl) (hpl : (backTo pos (starEach [.Tuple [.Name "tuple" p2, .Name "list" p3] k tpos] X.env)).any (·.1) = false := by rfl) :
    EvD T X G mu (.Call (.Name "isinstance" p) [e, .Tuple [.Name "tuple" p2, .Name "list" p3] k tpos] [] pos) (.dat (.bl (d.isTup || d.isLst))) mu1 := by
  obtain ⟨n, hn⟩ := Option.isSome_iff_exists.mp hn
  exact ev_isi2 h hm hmx hmy PyProof.Rows.boot_tuple PyProof.Rows.boot_list hn (kitTup hn) (kitLst hn) l hg hgx hgy (by decide) (by decide) (by decide) (by decide) ht1 ht2 he he2 hpl
end
section
variable {T : Tbs} {X : Cx} {G : List Cell} {mu mu1 mu2 : List Dt} {a b : Expr} {pos : Pos} {x y : Bool}
theorem et_isB (ha : EvD T X G mu a (.dat (.bl x)) mu1) (hb : EvD T X G mu1 b (.dat (.bl y)) mu2) (hm : behindInMarks .Is b = false := by rfl) : EvT T X G mu (.Compare a [.Is] [b] pos) (decide (x = y)) mu2 :=
  et_cmp op_isBl (op2_val (d1 := .bl x) (d2 := .bl y) rfl rfl fun F fi H v u Q s h1 h2 q => ⟨x, y, h1.bl, h2.bl, q _ (.bl _)⟩) hm ha hb
theorem et_isnB (ha : EvD T X G mu a (.dat (.bl x)) mu1) (hb : EvD T X G mu1 b (.dat (.bl y)) mu2) (hm : behindInMarks .IsNot b = false := by rfl) : EvT T X G mu (.Compare a [.IsNot] [b] pos) (!decide (x = y)) mu2 :=
  et_cmp op_notBl (op2_val (d1 := .bl x) (d2 := .bl y) rfl rfl fun F fi H v u Q s h1 h2 q => ⟨x, y, h1.bl, h2.bl, q _ (.bl _)⟩) hm ha hb
end
section
variable {T : Tbs} {X : Cx} {W : WX} {G : List Cell} {mu mu1 : List Dt} {c : Expr} {k : Bool} {sa sb : List Stmt} {o : SOut} {pos : Pos}
/-- if c: .. else: .., either way -/
theorem sifB (hc : EvT T X G mu c k mu1) (ha : k = true → SDs T X W G mu1 sa o) (hb : k = false → SDs T X W G mu1 sb o) : SD T X W G mu (.If c sa sb pos) o := by
  cases k with
  | true => exact sd_ifT hc (ha rfl)
  | false => exact sd_ifF hc (hb rfl)
end
end Dl

set_option Elab.async false
set_option linter.all false
set_option maxRecDepth 100000
set_option maxHeartbeats 4000000
/-! DlN: dicts whose keys are nested tuples. -/
namespace Dl
open PySem PySem.Spec PyProof.Rows L2
mutual
theorem nkey_dep : ∀ (n : Nat) (d : Dt), kd n d = true → (nkey d).depth ≤ n ∧ Dn.plainK (nkey d) = true
  | n, .non, _ => ⟨Nat.zero_le _, rfl⟩
  | n, .bl _, _ => ⟨Nat.zero_le _, rfl⟩
  | n, .int _, _ => ⟨Nat.zero_le _, rfl⟩
  | n + 1, .tup ds, h => by
    have h : ds.all (kd n) = true := by simpa [kd] using h
    obtain ⟨h1, h2⟩ := nkeys_dep n ds (List.all_eq_true.mp h)
    exact ⟨by show NestedKey.depthAll (nkeys ds) + 1 ≤ n + 1; omega, h2⟩
  | 0, .tup _, h => by simp [kd] at h
  | 0, .str _, h => by simp [kd] at h
  | _ + 1, .str _, h => by simp [kd] at h
  | 0, .lst _, h => by simp [kd] at h
  | _ + 1, .lst _, h => by simp [kd] at h
  | 0, .dic _ _ _, h => by simp [kd] at h
  | _ + 1, .dic _ _ _, h => by simp [kd] at h
  | 0, .obj _, h => by simp [kd] at h
  | _ + 1, .obj _, h => by simp [kd] at h
  | 0, .ptr _, h => by simp [kd] at h
  | _ + 1, .ptr _, h => by simp [kd] at h
  | 0, .scr _, h => by simp [kd] at h
  | _ + 1, .scr _, h => by simp [kd] at h
  | 0, .abs _, h => by simp [kd] at h
  | _ + 1, .abs _, h => by simp [kd] at h
theorem nkeys_dep : ∀ (n : Nat) (ds : List Dt), (∀ d ∈ ds, kd n d = true) → NestedKey.depthAll (nkeys ds) ≤ n ∧ Dn.plainKs (nkeys ds) = true
  | n, [], _ => ⟨Nat.zero_le _, rfl⟩
  | n, d :: ds, h => by
    obtain ⟨h1, h2⟩ := nkey_dep n d (h d List.mem_cons_self)
    obtain ⟨h3, h4⟩ := nkeys_dep n ds fun e he => h e (List.mem_cons_of_mem _ he)
    refine ⟨?_, ?_⟩
    · show max (nkey d).depth (NestedKey.depthAll (nkeys ds)) ≤ n
      omega
    · show (Dn.plainK (nkey d) && Dn.plainKs (nkeys ds)) = true
      rw [h2, h4] <;> rfl
end
section
variable {K : PySem.W.Frag} {F H : Hp} {fi : List Addr}
mutual
theorem Rp.kis (s : Sub F H) : ∀ {n : Nat} {v : V} {d : Dt}, Rp K F fi v d → kd n d = true → Dn.KIs H (nkey d) v
  | _, _, _, .non, _ => .none
  | _, _, _, .bl b, _ => .bool rfl
  | _, _, _, .int i, _ => .int i
  | _, _, _, .str _, h => by simp [kd] at h
  | 0, _, _, .tup _ _, h => by simp [kd] at h
  | n + 1, _, _, .tup (ds := ds) e r, h => .tup (s _ _ e) (RpL.kis s (n := n) r (by
      have h : ds.all (kd n) = true := by simpa [kd] using h
      exact List.all_eq_true.mp h))
  | _, _, _, .lst _ _, h => by simp [kd] at h
  | _, _, _, .dic _ _ _ _, h => by simp [kd] at h
  | _, _, _, .obj _, h => by simp [kd] at h
  | _, _, _, .ptr _, h => by simp [kd] at h
  | _, _, _, .scr _, h => by simp [kd] at h
  | _, _, _, .abs _, h => by simp [kd] at h
theorem RpL.kis (s : Sub F H) : ∀ {n : Nat} {vs : List V} {ds : List Dt}, RpL K F fi vs ds → (∀ d ∈ ds, kd n d = true) → Dn.KAll H (nkeys ds) vs
  | _, _, _, .nil, _ => .nil
  | _, _, _, .cons r rs, h => .cons (Rp.kis s r (h _ List.mem_cons_self)) (RpL.kis s rs fun d hd => h d (List.mem_cons_of_mem _ hd))
end
end
/-- a type of keys -/
structure KeyT (κ : Type) (t : κ → Dt) : Prop where
  ok : ∀ k, kd 8 (t k) = true
  tup : ∀ k, ∃ ds, t k = .tup ds
  inj : ∀ a b, nkey (t a) = nkey (t b) → a = b
def dicN {κ : Type} (t : κ → Dt) (kvs : List (κ × Dt)) : Dt := .dic true (kvs.map fun p => t p.1) (kvs.map (·.2))
def getA {κ : Type} [DecidableEq κ] (kvs : List (κ × Dt)) (k : κ) : Option Dt := (kvs.find? fun p => decide (p.1 = k)).map (·.2)
theorem getA_cons {κ : Type} [DecidableEq κ] (p : κ × Dt) (kvs : List (κ × Dt)) (k : κ) : getA (p :: kvs) k = if p.1 = k then some p.2 else getA kvs k := by
  unfold getA
  rw [List.find?_cons]
  by_cases h : p.1 = k
  · rw [if_pos h, decide_eq_true h] <;> rfl
  · rw [if_neg h, decide_eq_false h]
theorem getA_any {κ : Type} [DecidableEq κ] (kvs : List (κ × Dt)) (k : κ) : (getA kvs k).isSome = kvs.any fun kv => decide (kv.1 = k) := by
  induction kvs with
  | nil => rfl
  | cons p kvs ih =>
    rw [getA_cons, List.any_cons, ← ih]
    by_cases h : p.1 = k
    · rw [if_pos h, decide_eq_true h] <;> rfl
    · rw [if_neg h, decide_eq_false h, Bool.false_or]
theorem atV_cons (x : Dn.EntN) (xs : List Dn.EntN) (k : NestedKey) : Dn.atV (x :: xs) k = if x.1 = k then some x.2.2 else Dn.atV xs k := by
  unfold Dn.atV
  rw [List.find?_cons]
  by_cases h : x.1 = k
  · rw [if_pos h, decide_eq_true h] <;> rfl
  · rw [if_neg h, decide_eq_false h]
section
variable {K : PySem.W.Frag} {F H : Hp} {fi : List Addr} {κ : Type} {t : κ → Dt}
/-- the entries are the pairs -/
abbrev EnD (K : PySem.W.Frag) (F : Hp) (fi : List Addr) (t : κ → Dt) : List Dn.EntN → List (κ × Dt) → Prop := Paired fun x p => x.1 = nkey (t p.1) ∧ Rp K F fi (.ref x.2.1) (t p.1) ∧ Rp K F fi x.2.2 p.2
theorem EnD.of : ∀ {xs : List Dn.EntN} {kvs : List (κ × Dt)}, xs.map (·.1) = (kvs.map fun p => t p.1).map nkey → RpL K F fi (xs.map fun x => V.ref x.2.1) (kvs.map fun p => t p.1) → RpL K F fi (xs.map (·.2.2)) (kvs.map (·.2)) → EnD K F fi t xs kvs
  | [], [], _, _, _ => .nil
  | [], _ :: _, h, _, _ => by cases h
  | _ :: _, [], h, _, _ => by cases h
  | x :: xs, p :: kvs, h, h2, h3 => by
    cases h2 with
    | cons r2 h2 => cases h3 with
      | cons r3 h3 => exact .cons ⟨(List.cons.inj h).1, r2, r3⟩ (EnD.of (List.cons.inj h).2 h2 h3)
theorem EnD.to {xs : List Dn.EntN} {kvs : List (κ × Dt)} (h : EnD K F fi t xs kvs) : xs.map (·.1) = (kvs.map fun p => t p.1).map nkey ∧ RpL K F fi (xs.map fun x => V.ref x.2.1) (kvs.map fun p => t p.1) ∧ RpL K F fi (xs.map (·.2.2)) (kvs.map (·.2)) := by
  induction h with
  | nil => exact ⟨rfl, .nil, .nil⟩
  | cons q _ ih => exact ⟨by rw [List.map_cons, List.map_cons, List.map_cons, q.1, ih.1], .cons q.2.1 ih.2.1, .cons q.2.2 ih.2.2⟩
theorem EnD.mono {F' : Hp} {fi' : List Addr} {xs : List Dn.EntN} {kvs : List (κ × Dt)} (s : Sub F F') (p : fi <+: fi') (h : EnD K F fi t xs kvs) : EnD K F' fi' t xs kvs :=
  Paired.mapP h fun _ _ q => ⟨q.1, q.2.1.mono s p, q.2.2.mono s p⟩
variable [DecidableEq κ]
theorem EnD.at {xs : List Dn.EntN} {kvs : List (κ × Dt)} (kt : KeyT κ t) (h : EnD K F fi t xs kvs) (k : κ) : (∀ d, getA kvs k = some d → ∃ v, Dn.atV xs (nkey (t k)) = some v ∧ Rp K F fi v d) ∧ (Dn.atV xs (nkey (t k))).isSome = (getA kvs k).isSome := by
  induction h with
  | nil => exact ⟨fun d h => by simp [getA] at h, rfl⟩
  | @cons x p xs kvs q _ ih =>
    rw [getA_cons, atV_cons]
    by_cases e : p.1 = k
    · have e2 : x.1 = nkey (t k) := by rw [q.1, e]
      rw [if_pos e, if_pos e2]
      exact ⟨fun d h => by cases h; exact ⟨_, rfl, q.2.2⟩, rfl⟩
    · have e2 : ¬ x.1 = nkey (t k) := fun z => e (kt.inj _ _ (q.1.symm.trans z))
      rw [if_neg e, if_neg e2]
      exact ih
theorem EnD.put {xs : List Dn.EntN} {kvs : List (κ × Dt)} (kt : KeyT κ t) (h : EnD K F fi t xs kvs) (k : κ) {b : Addr} {v : V} {d : Dt} (hb : Rp K F fi (.ref b) (t k)) (hv : Rp K F fi v d) : EnD K F fi t (Dn.storedV xs (nkey (t k)) b v) (putA kvs k d) := by
  have e : (Dn.atV xs (nkey (t k))).isSome = (kvs.any fun kv => decide (kv.1 = k)) := by
    rw [(h.at kt k).2, getA_any]
  unfold Dn.storedV putA
  rw [e]
  split
  · rename_i hc
    clear e hc
    induction h with
    | nil => exact .nil
    | @cons x p xs kvs q _ ih =>
      rw [List.map_cons, List.map_cons]
      refine .cons ?_ ih
      unfold Dn.putV
      by_cases e : p.1 = k
      · have e2 : x.1 = nkey (t k) := by rw [q.1, e]
        rw [if_pos e, if_pos e2]
        exact ⟨q.1, q.2.1, hv⟩
      · have e2 : ¬ x.1 = nkey (t k) := fun z => e (kt.inj _ _ (q.1.symm.trans z))
        rw [if_neg e, if_neg e2]
        exact q
  · exact Dn.rel_snoc h ⟨rfl, hb, hv⟩
theorem EnD.keys {xs : List Dn.EntN} {kvs : List (κ × Dt)} (kt : KeyT κ t) (s : Sub F H) (h : EnD K F fi t xs kvs) : ∀ x ∈ xs, Dn.KIs H x.1 (.ref x.2.1) ∧ x.1.depth ≤ 8 ∧ Dn.plainK x.1 = true := by
  induction h with
  | nil => intro x hx; cases hx
  | @cons x p xs kvs q _ ih =>
    intro y hy
    rcases List.mem_cons.mp hy with e | e
    · subst e
      rw [q.1]
      exact ⟨q.2.1.kis s (kt.ok p.1), nkey_dep 8 _ (kt.ok p.1)⟩
    · exact ih y e
theorem viewN {a : Addr} {u : HO} {kvs : List (κ × Dt)} {ka vs : List V} (kt : KeyT κ t) (s : Sub F H) (h1 : H a = some u) (h2 : DkO true a u (kvs.map fun p => t p.1) ka vs) (h3 : RpL K F fi ka (kvs.map fun p => t p.1)) (h4 : RpL K F fi vs (kvs.map (·.2))) :
    ∃ xs, Dn.NRd H a xs ∧ EnD K F fi t xs kvs := by
  obtain ⟨g1, od, xs, rfl, g2, g3, g4, g5, g6, rfl, rfl⟩ := h2
  have en : EnD K F fi t xs kvs := .of g4 h3 h4
  exact ⟨xs, ⟨g1, g3, ⟨od, h1, g2⟩, en.keys kt s, g5⟩, en⟩
theorem Vw.dicN {v : V} {kvs : List (κ × Dt)} (kt : KeyT κ t) (s : Sub F H) (h : Vw K F fi H v (Dl.dicN t kvs)) : ∃ a xs, v = .ref a ∧ Dn.NRd H a xs ∧ EnD K F fi t xs kvs := by
  obtain ⟨a, u, ka, vs, rfl, h1, h2, h3, h4⟩ := h.dic s
  obtain ⟨xs, g1, g2⟩ := viewN kt s h1 h2 h3 h4
  exact ⟨a, xs, rfl, g1, g2⟩
theorem ob_viewN {a : Addr} {kvs : List (κ × Dt)} (kt : KeyT κ t) (s : Sub F H) (h : Ob K F fi H a (Dl.dicN t kvs)) : ∃ xs, Dn.NRd H a xs ∧ EnD K F fi t xs kvs := by
  obtain ⟨u, ka, vs, h1, h2, h3, h4⟩ := h
  exact viewN kt s h1 h2 h3 h4
theorem ob_ofN {a : Addr} {xs : List Dn.EntN} {kvs : List (κ × Dt)} (kt : KeyT κ t) (g : Dn.NRd H a xs) (en : EnD K F fi t xs kvs) : Ob K F fi H a (Dl.dicN t kvs) := by
  obtain ⟨g1, g2, ⟨od, g3, g4⟩, _, g5⟩ := g
  obtain ⟨e1, e2, e3⟩ := en.to
  exact ⟨Dn.ObjN a od, _, _, g3, ⟨g1, od, xs, rfl, g4, g2, e1, g5, fun k hk => by obtain ⟨p, _, rfl⟩ := List.mem_map.mp hk; exact kt.ok p.1, rfl, rfl⟩, e2, e3⟩
end
section
variable {T : Tbs} {X : Cx} {W : WX} {G : List Cell} {mu mu1 mu2 : List Dt} {a b e o kx : Expr} {r r1 r2 : Res} {d : Dt} {pos pos' p : Pos} {κ : Type} {t : κ → Dt} [DecidableEq κ]
/-- {}, its keys will be nested tuples -/
theorem ev_dictN (kt : KeyT κ t) : EvD T X G mu (.Dict [] [] pos) (.new (dicN t [])) mu :=
  pe_imp Dn.pe_nnew fun sg H Q ⟨B, F, fi, e, q⟩ p od hp g => by
    obtain ⟨h1, h2, h3, h4, h5⟩ := e.put hp (Dn.ObjN p od)
    exact q _ F fi _ (Sub.refl F) (List.prefix_refl _) h1 ⟨p, rfl, h2, ob_ofN kt g .nil, h3, h4, h5⟩
theorem key_ref {K : PySem.W.Frag} {F : Hp} {fi : List Addr} {v : V} {k : κ} (kt : KeyT κ t) (h : Rp K F fi v (t k)) : ∃ b, v = .ref b := by
  obtain ⟨ds, e⟩ := kt.tup k
  rw [e] at h
  cases h
  exact ⟨_, rfl⟩
/-- d[k] -/
theorem ev_ngetN (kt : KeyT κ t) {kvs : List (κ × Dt)} {k : κ} (hu : X.A.units + 9 < cLine) (ho : EvD T X G mu o r mu1) (hk : EvD T X G mu1 kx (.dat (t k)) mu2) (hd : getA kvs k = some d) (l : look G r = some (dicN t kvs) := by rfl) (hs : NoSl kx := by exact fun _ _ => rfl) :
    EvD T X G mu (.Subscript o kx pos) (.dat d) mu2 := by
  refine pe_imp (Dn.pe_nget hu ho hk hs) fun sg H Q ⟨B, F, fi, e, q⟩ => ⟨B, F, fi, e, fun x F1 fi1 H1 s1 p1 e1 h1 => ?_⟩
  obtain ⟨F2, s2, e2, h2⟩ := e1.hold h1
  refine ⟨B, F2, fi1, e2, fun y F3 fi3 H3 s3 p3 e3 h3 => ?_⟩
  obtain ⟨a, xs, rfl, g, en⟩ := (e3.viewH (h2.keep s3 p3) l).dicN kt e3.sub
  obtain ⟨b, rfl⟩ := key_ref kt h3
  obtain ⟨v, hv, rv⟩ := (en.at kt k).1 d hd
  exact ⟨a, xs, nkey (t k), b, v, rfl, g, rfl, Rp.kis e3.sub h3 (kt.ok k), (nkey_dep 8 _ (kt.ok k)).1, hv, q v F3 fi3 H3 ((s1.trans s2).trans s3) (p1.trans p3) e3 rv⟩
/-- the relations of k in d, k not in d -/
def rNIn : R2 := fun y x H Q => ∃ a xs k b, x = .ref a ∧ Dn.NRd H a xs ∧ y = .ref b ∧ Dn.KIs H k (.ref b) ∧ k.depth ≤ 8 ∧ Q (.bl (Dn.atV xs k).isSome) H
def rNNotIn : R2 := fun y x H Q => ∃ a xs k b, x = .ref a ∧ Dn.NRd H a xs ∧ y = .ref b ∧ Dn.KIs H k (.ref b) ∧ k.depth ≤ 8 ∧ Q (.bl (!(Dn.atV xs k).isSome)) H
theorem op_nin (hu : X.A.units + 9 < cLine) : OpR X (compareOp .In) rNIn := fun pins s σ H y x v u Q I ry rx h => by
  obtain ⟨a, xs, k, b, rfl, g, rfl, hk, hd, q⟩ := h
  obtain rfl : u = Value.ref a := rx
  obtain rfl : v = Value.ref b := ry
  exact Dn.n_in hu I g hk hd fun s3 I3 => ⟨.bl (Dn.atV xs k).isSome, H, I3, rfl, q⟩
theorem op_nnotin (hu : X.A.units + 9 < cLine) : OpR X (compareOp .NotIn) rNNotIn := fun pins s σ H y x v u Q I ry rx h => by
  obtain ⟨a, xs, k, b, rfl, g, rfl, hk, hd, q⟩ := h
  obtain rfl : u = Value.ref a := rx
  obtain rfl : v = Value.ref b := ry
  exact Dn.n_notIn hu I g hk hd fun s3 I3 => ⟨.bl (!(Dn.atV xs k).isSome), H, I3, rfl, q⟩
theorem op2_nin (kt : KeyT κ t) {kvs : List (κ × Dt)} {k : κ} (l1 : look G r1 = some (t k)) (l2 : look G r2 = some (dicN t kvs)) : Op2 X.K T G mu2 r1 r2 (.dat (.bl (getA kvs k).isSome)) rNIn := fun B F fi sg H v u Q e h1 h2 q => by
  obtain ⟨a, xs, rfl, g, en⟩ := (e.viewH h2 l2).dicN kt e.sub
  obtain ⟨ds, ek⟩ := kt.tup k
  have hv : Rp X.K F fi v (t k) := by
    rcases e.viewH h1 l1 with z | ⟨_, _, z⟩
    · exact z
    · rw [ek] at z; exact z.elim
  obtain ⟨b, rfl⟩ := key_ref kt hv
  refine ⟨a, xs, nkey (t k), b, rfl, g, rfl, Rp.kis e.sub hv (kt.ok k), (nkey_dep 8 _ (kt.ok k)).1, ?_⟩
  rw [(en.at kt k).2]
  exact q _ F fi H (Sub.refl F) (List.prefix_refl _) e (.bl _)
theorem op2_nnotin (kt : KeyT κ t) {kvs : List (κ × Dt)} {k : κ} (l1 : look G r1 = some (t k)) (l2 : look G r2 = some (dicN t kvs)) : Op2 X.K T G mu2 r1 r2 (.dat (.bl (!(getA kvs k).isSome))) rNNotIn := fun B F fi sg H v u Q e h1 h2 q => by
  obtain ⟨a, xs, rfl, g, en⟩ := (e.viewH h2 l2).dicN kt e.sub
  obtain ⟨ds, ek⟩ := kt.tup k
  have hv : Rp X.K F fi v (t k) := by
    rcases e.viewH h1 l1 with z | ⟨_, _, z⟩
    · exact z
    · rw [ek] at z; exact z.elim
  obtain ⟨b, rfl⟩ := key_ref kt hv
  refine ⟨a, xs, nkey (t k), b, rfl, g, rfl, Rp.kis e.sub hv (kt.ok k), (nkey_dep 8 _ (kt.ok k)).1, ?_⟩
  rw [(en.at kt k).2]
  exact q _ F fi H (Sub.refl F) (List.prefix_refl _) e (.bl _)
theorem ev_nin (kt : KeyT κ t) {kvs : List (κ × Dt)} {k : κ} (hu : X.A.units + 9 < cLine) (ha : EvD T X G mu a r1 mu1) (hb : EvD T X G mu1 b r2 mu2) (l1 : look G r1 = some (t k) := by rfl) (l2 : look G r2 = some (dicN t kvs) := by rfl) (hm : behindInMarks .In b = false := by rfl) :
    EvD T X G mu (.Compare a [.In] [b] pos) (.dat (.bl (getA kvs k).isSome)) mu2 := ev_cmp (op_nin hu) (op2_nin kt l1 l2) hm ha hb
theorem et_nin (kt : KeyT κ t) {kvs : List (κ × Dt)} {k : κ} (hu : X.A.units + 9 < cLine) (ha : EvD T X G mu a r1 mu1) (hb : EvD T X G mu1 b r2 mu2) (l1 : look G r1 = some (t k) := by rfl) (l2 : look G r2 = some (dicN t kvs) := by rfl) (hm : behindInMarks .In b = false := by rfl) :
    EvT T X G mu (.Compare a [.In] [b] pos) (getA kvs k).isSome mu2 := et_cmp (op_nin hu) (op2_nin kt l1 l2) hm ha hb
theorem ev_nnotin (kt : KeyT κ t) {kvs : List (κ × Dt)} {k : κ} (hu : X.A.units + 9 < cLine) (ha : EvD T X G mu a r1 mu1) (hb : EvD T X G mu1 b r2 mu2) (l1 : look G r1 = some (t k) := by rfl) (l2 : look G r2 = some (dicN t kvs) := by rfl) (hm : behindInMarks .NotIn b = false := by rfl) :
    EvD T X G mu (.Compare a [.NotIn] [b] pos) (.dat (.bl (!(getA kvs k).isSome))) mu2 := ev_cmp (op_nnotin hu) (op2_nnotin kt l1 l2) hm ha hb
theorem et_nnotin (kt : KeyT κ t) {kvs : List (κ × Dt)} {k : κ} (hu : X.A.units + 9 < cLine) (ha : EvD T X G mu a r1 mu1) (hb : EvD T X G mu1 b r2 mu2) (l1 : look G r1 = some (t k) := by rfl) (l2 : look G r2 = some (dicN t kvs) := by rfl) (hm : behindInMarks .NotIn b = false := by rfl) :
    EvT T X G mu (.Compare a [.NotIn] [b] pos) (!(getA kvs k).isSome) mu2 := et_cmp (op_nnotin hu) (op2_nnotin kt l1 l2) hm ha hb
/-- d[k] = e on an own dict -/
theorem sd_nput (kt : KeyT κ t) {kvs : List (κ × Dt)} {k : κ} (i : Nat) (hu : X.A.units + 9 < cLine) (he : EvD T X G mu e (.dat d) mu1) (ho : EvD T X G mu1 o (.bor i) mu1) (hk : EvD T X G mu1 kx (.dat (t k)) mu2) (hG : G[i]? = some (.own (dicN t kvs))) (hl : kvs.length < 1000000)
    (hs : swapsWith e (some (.Subscript o kx pos')) pos.line X.env = pure false := by rfl) : SD T X W G mu (.Assign [.Subscript o kx pos'] e pos) (.nx (G.set i (.own (dicN t (putA kvs k d)))) mu2) := by
  refine ps_imp (Dn.ps_nput hu ho hk he hs) fun D sg H ⟨B, F, fi, e0, q⟩ => ⟨B, F, fi, e0, fun v F1 fi1 H1 s1 p1 e1 h1 => ?_⟩
  refine ⟨B, F1, fi1, e1, fun x F2 fi2 H2 s2 p2 e2 h2 => ⟨B, F2, fi2, e2, fun y F3 fi3 H3 s3 p3 e3 h3 => ?_⟩⟩
  obtain ⟨p, g1, g2, g3, g4⟩ := e3.own i _ hG
  obtain ⟨g5, _⟩ := h2
  rw [g1] at g5
  cases g5
  obtain ⟨xs, g6, en⟩ := ob_viewN kt e3.sub g3
  have hv : Rp X.K F3 fi3 v d := Rp.mono (s2.trans s3) (p2.trans p3) h1
  obtain ⟨b, rfl⟩ := key_ref kt h3
  have hlen : xs.length < sizeLine := by
    have := Dn.rel_len en
    rw [sizeLine_eq]
    omega
  obtain ⟨d1, d2⟩ := nkey_dep 8 _ (kt.ok k)
  exact ⟨p, xs, nkey (t k), b, rfl, g6, rfl, Rp.kis e3.sub h3 (kt.ok k), d1, d2, hlen, fun od g7 => q F3 fi3 _ _ (s1.trans (s2.trans s3)) (p1.trans (p2.trans p3)) (e3.chgO hG g1 (ob_ofN kt g7 (en.put kt k h3 hv)))⟩
/-- list(d): its keys -/
theorem ev_listN (kt : KeyT κ t) {kvs : List (κ × Dt)} (hc : X.calm = true) (h : EvD T X G mu e r mu1) (hm : X.mg "list" = none) (l : look G r = some (dicN t kvs) := by rfl) (hg : Gl X "list" := by rfl) (he : starEach [e] X.env = (false, eval e X.env) :: starEach [] X.env := by rfl) :
    EvD T X G mu (.Call (.Name "list" p) [e] [] pos) (.new (.lst (kvs.map fun q => t q.1))) mu1 := by
  refine ev_Ty (Dn.call_list_n hc) (cd_new l fun F fi H v Q s hv q => ?_) (ea_cons h ea_nil he) hm PyProof.Rows.boot_list hg (by decide) (by decide) he
  obtain ⟨a, xs, rfl, g, en⟩ := hv.dicN kt s
  exact ⟨a, xs, rfl, g, fun p hp => q p _ hp en.to.2.1⟩
end
section
variable {K : PySem.W.Frag} {F : Hp} {fi : List Addr}
theorem Feeds.keysN {a : Addr} {od : Obj} {xs : List Dn.EntN} {ds : List Dt} (h : F a = some (Dn.ObjN a od)) (r : RpL K F fi (xs.map fun x => V.ref x.2.1) ds) : Feeds K (Dn.Itn a od xs) F fi ds where
  go := fun i d H s hi => by
    obtain ⟨v, hv, rv⟩ := RpL.getD r hi
    rw [List.getElem?_map] at hv
    obtain ⟨x, hx, rfl⟩ := Option.map_eq_some_iff.mp hv
    refine ⟨⟨s _ _ h, (List.getElem?_eq_some_iff.mp hx).1⟩, fun y H' ⟨e1, x', hx', e2⟩ => .inl ⟨e1, ?_⟩⟩
    rw [hx] at hx'
    cases hx'
    rw [e2]
    exact rv
  stop := fun H s => ⟨s _ _ h, by
    have := RpL.length r
    rw [List.length_map] at this
    omega⟩
end
section
variable {T : Tbs} {X : Cx} {G : List Cell} {mu mu1 : List Dt} {e tg : Expr} {κ : Type} {t : κ → Dt} [DecidableEq κ]
/-- for k in d (d is data) -/
theorem ei_keysN (kt : KeyT κ t) {kvs : List (κ × Dt)} (h : EvD T X G mu e (.dat (dicN t kvs)) mu1) : EvI T X G mu tg e (kvs.map fun q => t q.1) mu1 := by
  refine pi_imp (Dn.pi_n h) fun sg H R ⟨B, F, fi, e, q⟩ => ⟨B, F, fi, e, fun v F1 fi1 H1 s1 p1 e1 m1 => ?_⟩
  cases m1 with
  | @dic a _ u _ ka vs _ h1 h2 h3 h4 =>
    obtain ⟨xs, g1, g2⟩ := viewN (kvs := kvs) kt e1.sub (e1.sub _ _ h1) h2 h3 h4
    refine ⟨a, xs, rfl, g1, fun od ho hd => q F1 fi1 H1 _ s1 p1 e1 (Feeds.keysN ?_ g2.to.2.1)⟩
    have := e1.sub _ _ h1
    rw [this] at ho
    cases ho
    exact h1
end
end Dl

set_option Elab.async false
set_option linter.all false
set_option maxRecDepth 100000
set_option maxHeartbeats 4000000
/-! Dn2: the greatest of a list, of a dict's values, with a default. -/
namespace Dn
open PySem PySem.Spec PyProof.Rows L2
theorem getD_at {ns : List Int} {i : Nat} (h : i < ns.length) : ns.getD i 0 = ns[i] := by
  rw [List.getD_eq_getElem?_getD, List.getElem?_eq_getElem h] <;> rfl
abbrev btI (ns : List Int) : Nat → Nat → Bool := fun i j => decide (ns.getD i 0 > ns.getD j 0)
theorem best_ok {ns : List Int} {n : Nat} (hn : n = ns.length) (h0 : 0 < n) : ns.getD (argBest (btI ns) (n - 1)) 0 ∈ ns ∧ ∀ y ∈ ns, y ≤ ns.getD (argBest (btI ns) (n - 1)) 0 := by
  obtain ⟨m1', m2'⟩ := argBest_gt (fun i => ns.getD i 0) (n - 1)
  have m1 : argBest (btI ns) (n - 1) ≤ n - 1 := m1'
  have m2 : ∀ j, j ≤ n - 1 → ns.getD j 0 ≤ ns.getD (argBest (btI ns) (n - 1)) 0 := m2'
  refine ⟨?_, fun y hy => ?_⟩
  · rw [getD_at (by omega)]
    exact List.getElem_mem _
  · obtain ⟨j, hj, e⟩ := List.mem_iff_getElem.mp hy
    have z := m2 j (by omega)
    rw [getD_at hj, e] at z
    exact z
theorem cmp_ints {prog : Program} {w : World} {A : Around} {H : Heap} {P : Nat → Value → Prop} {ns : List Int} (hv : ∀ i v, P i v → ∃ t, v = .int (ns.getD i 0) t) : PySem.CmpIn prog w A .Gt H P (btI ns) :=
  fun i j vi vj s Q E _ hi hj h => CmpOf.ints_gt (fun i => ns.getD i 0) hv i j vi vj s Q E hi hj h
/-- max(xs, default=z) -/
def rMaxDef (K : PySem.W.Frag) : List V → List V → Hp → VK → Prop := fun vs zs H Q => ∃ (a : Addr) (ns : List Int) (z : V), vs = [V.ref a] ∧ zs = [z] ∧ SqL K H a (ns.map V.int) ∧ (ns = [] → Q z H) ∧ ∀ m, m ∈ ns → (∀ y, y ∈ ns → y ≤ m) → Q (.int m) H
theorem cr_maxDef {X : Cx} (hc : X.calm = true) : CallRK X (.builtin "max") [Str.ofString "default"] (rMaxDef X.K) := by
  intro pins s σ H xs zs us ws Q I rx rz h
  obtain ⟨a, ns, z, rfl, rfl, hs, q0, q⟩ := h
  obtain ⟨its, rv, hl, _⟩ := I.list hs
  rw [Vals.ref1 rx]
  obtain ⟨wz, rfl, rw⟩ := rz.one
  show wpAny _ _ (call (.builtin "max") [.ref a] [(Str.ofString "default", wz)]) _ _ s
  have hlen : its.length = ns.length := by
    have := rv.length
    rw [List.length_map] at this
    exact this.symm
  have hv : ∀ (i : Nat) (v : Value), its.toArray[i]? = some v → ∃ t, v = .int (ns.getD i 0) t := fun i v hi => by
    have hi2 : its[i]? = some v := by rw [← Array.getElem?_toList] at hi; exact hi
    have hlt : i < ns.length := by
      have := (List.getElem?_eq_some_iff.mp hi2).1
      omega
    obtain ⟨u, hu, ru⟩ := rv.get (i := i) (x := .int ns[i]) (by rw [List.getElem?_map, List.getElem?_eq_getElem hlt] <;> rfl)
    rw [hi2] at hu
    cases hu
    rw [getD_at hlt]
    exact ru
  have hsz : its.toArray.size = ns.length := by rw [List.size_toArray, hlen]
  refine PySem.call_max_walkD (PySem.W.iter_listW (A := X.A.in1) (I.ok.hd hc) hl.isList fun s₂ e W st hfp hw hk => ?_)
  refine ⟨_, _, _, _, _, _, _, s.heap, btI ns, rfl, W, st, hfp, hw, hk, fun hz s' m => ?_, fun hp => ⟨cmp_ints hv, fun v s' hP m => ?_⟩⟩
  · obtain ⟨h', tk, rfl, hk'⟩ := PySem.W.moved_old e rfl m
    exact ⟨z, H, I.kept (t' := tk) hk', rw, q0 (List.eq_nil_of_length_eq_zero (by omega))⟩
  · obtain ⟨h', tk, rfl, hk'⟩ := PySem.W.moved_old e rfl m
    obtain ⟨t, rfl⟩ := hv _ _ hP
    obtain ⟨b1, b2⟩ := best_ok hsz hp
    exact ⟨.int _, H, I.kept (t' := tk) hk', ⟨t, rfl⟩, q _ b1 b2⟩
/-! ### d.values() -/
def viewV (p d : Addr) : HO := .ext fun h => h.get? p = some { cls := .type "dict_values", data := .fields #[.ref d] }
theorem viewV_ok {P : Program} {w : World} {H : Hp} {h : Heap} {p d : Addr} (e : h.get? p = some { cls := .type "dict_values", data := .fields #[.ref d] }) : ObjOk P w H h p (viewV p d) := ⟨e, ⟨_, e⟩, fun h1 h2 q k => k _ q⟩
def tNVals (td : TE) : TE := fun σ H Q => td σ H fun x H1 => ∃ d xs, x = .ref d ∧ NRd H1 d xs ∧ ∀ p, H1 p = none → Q (.ref p) (upd H1 p (viewV p d))
theorem raw_of {P : Program} {w : World} {H : Hp} {h : Heap} {d : Addr} {xs : List EntN} (ok : HOk P w H h) (g : NRd H d xs) : ∃ es ep, h.DictRaw d es ep ∧ Paired EntR xs es.toList := by
  obtain ⟨_, _, ⟨od, e, hx, es, ep, hd, pr⟩, _⟩ := g
  exact ⟨es, ep, ⟨od, ObjN.at ok e, hx, hd⟩, pr⟩
theorem pe_nvals {X : Cx} {e : Expr} {td : TE} {apos cpos : Pos} (he : PE X e td) (hbase : attributeBase e "values" X.env (eval e X.env) = eval e X.env := by rfl) (hline : (apos.endLine == cpos.line) = true := by rfl) :
    PE X (.Call (.Attribute e "values" apos) [] [] cpos) (tNVals td) := by
  refine ⟨fun pins s σ H Q I h => ?_⟩
  refine wpAny_Call_method (T := "dict") (id := "dict.values") hbase rfl hline PySem.F.plainAttrs_dict PySem.F.slot_dict_values PySem.F.type_dict_values (thn (he.run pins s σ H _ I h) fun u s1 ⟨x, H1, I1, rx, d, xs, ex, g, q⟩ => ?_)
  subst ex
  obtain rfl : u = Value.ref d := rx
  obtain ⟨es, ep, hr, pr⟩ := raw_of I1.hok g
  obtain ⟨o, ho, hx, hd⟩ := id hr
  refine ⟨hr.typeIs, fun b e => ?_, ?_⟩
  · cases e
    exact ⟨o, ho, hx.2.1⟩
  show wpAny _ _ (callWith cpos (.builtin "dict.values") [.ref d] [] []) _ X.xe s1
  exact method_meetsIn PySem.F.slot_dict_values PySem.F.entry_dict_values rfl (PySem.evalArgs_none ⟨rfl, hr.typeIs, PySem.F.args_dict_values_1 _, _, meets_dict_values_raw d g.1, ⟨es, ep, hr⟩, ⟨.ref s1.heap.objs.size, _, I1.laid (t' := s1.toks) (fun b o q => Heap.get?_push_of_some _ q) (Nat.le_refl _) (viewV_ok (Heap.get?_push_size _ rfl)), rfl, q _ (I1.hok.fresh (Nat.le_refl _))⟩⟩)
/-- max(d.values(), default=z) -/
def rMaxVals : List V → List V → Hp → VK → Prop := fun vs zs H Q => ∃ (p d : Addr) (xs : List EntN) (ns : List Int) (z : V), vs = [V.ref p] ∧ zs = [z] ∧ H p = some (viewV p d) ∧ NRd H d xs ∧ xs.map (·.2.2) = ns.map V.int ∧ (ns = [] → Q z H) ∧ ∀ m, m ∈ ns → (∀ y, y ∈ ns → y ≤ m) → Q (.int m) H
theorem cr_maxVals {X : Cx} (hc : X.calm = true) : CallRK X (.builtin "max") [Str.ofString "default"] rMaxVals := by
  intro pins s σ H xs zs us ws Q I rx rz h
  obtain ⟨p, d, es0, ns, z, rfl, rfl, hp, g, hns, q0, q⟩ := h
  rw [Vals.ref1 rx]
  obtain ⟨wz, rfl, rw⟩ := rz.one
  show wpAny _ _ (call (.builtin "max") [.ref p] [(Str.ofString "default", wz)]) _ _ s
  obtain ⟨es, ep, hr, pr⟩ := raw_of I.hok g
  have hvw : s.heap.get? p = some { cls := .type "dict_values", data := .fields #[.ref d] } := (show ObjOk X.prog X.w H s.heap p (viewV p d) from I.hok p _ hp).1
  have hsz : es.size = ns.length := by
    have h1 := len_of pr
    have h2 := congrArg List.length hns
    rw [List.length_map, List.length_map] at h2
    omega
  have hv : ∀ (i : Nat) (v : Value), (∃ hi : i < es.size, v = es[i].val) → ∃ t, v = .int (ns.getD i 0) t := fun i v ⟨hi, e⟩ => by
    have h1 := len_of pr
    obtain ⟨x, hx⟩ : ∃ x, es0[i]? = some x := ⟨es0[i], List.getElem?_eq_getElem (by omega)⟩
    obtain ⟨en, hen, hr2⟩ := pr_get pr hx
    rw [Array.getElem?_toList, Array.getElem?_eq_getElem hi] at hen
    cases hen
    have e2 : (es0.map (·.2.2))[i]? = some x.2.2 := by rw [List.getElem?_map, hx] <;> rfl
    rw [hns, List.getElem?_map, List.getElem?_eq_getElem (by omega)] at e2
    have e3 : x.2.2 = V.int ns[i] := (Option.some.inj e2).symm
    have r := hr2.2.2
    rw [e3] at r
    rw [getD_at (by omega), e]
    exact r
  refine PySem.call_max_walkD (wpAny_pyIter_values_raw (A := X.A.in1) ⟨_, hvw, rfl, rfl⟩ hr ?_)
  have hd : d < s.heap.objs.size := by obtain ⟨o, ho, _⟩ := hr; exact Heap.lt_size ho
  refine ⟨s.heap.objs.size, _, _, _, _, _, _, s.heap, btI ns, rfl, (Walks.rawValues (show X.A.in1.handled = none from I.ok.hd hc) s.heap.objs.size d (Nat.ne_of_lt hd) es ep).toS, ⟨⟨_, Heap.get?_push_size _ rfl, rfl, rfl⟩, hr.at fun o e => Heap.get?_push_of_some _ e⟩, fun b hb => ?_, fun b o e hb => ?_, fun b o e => Heap.get?_push_of_some _ e, fun hz s' m => ?_, fun hpos => ⟨cmp_ints hv, fun v s' hP m => ?_⟩⟩
  · show b < (s.heap.push _).objs.size
    rw [Heap.size_push]
    rcases List.mem_cons.mp hb with z | z
    · rw [z]
      exact Nat.lt_succ_self _
    · rw [List.mem_singleton.mp z]
      exact Nat.lt_succ_of_lt hd
  · rw [List.mem_singleton.mp hb] at e
    exact absurd (Heap.lt_size e) (Nat.lt_irrefl _)
  · obtain ⟨h', tk, rfl, hk'⟩ := PySem.W.moved_old rfl rfl m
    exact ⟨z, H, I.kept (t' := tk) hk', rw, q0 (List.eq_nil_of_length_eq_zero (by omega))⟩
  · obtain ⟨h', tk, rfl, hk'⟩ := PySem.W.moved_old rfl rfl m
    obtain ⟨t, rfl⟩ := hv _ _ hP
    obtain ⟨b1, b2⟩ := best_ok hsz hpos
    exact ⟨.int _, H, I.kept (t' := tk) hk', ⟨t, rfl⟩, q _ b1 b2⟩
end Dn

set_option Elab.async false
set_option linter.all false
set_option maxRecDepth 100000
set_option maxHeartbeats 4000000
/-! DlFz: a shared list within a stretch of statements; pop; x += list; the greatest. -/
namespace Dl
open PySem PySem.Spec PyProof.Rows L2
mutual
/-- no shared object from n on is named in it -/
def np (n : Nat) : Dt → Bool
  | .ptr j => decide (j < n)
  | .tup ds => npL n ds
  | .lst ds => npL n ds
  | .dic _ _ ds => npL n ds
  | _ => true
def npL (n : Nat) : List Dt → Bool
  | [] => true
  | d :: ds => np n d && npL n ds
end
mutual
/-- m in the place of the n-th shared object -/
def fz (n : Nat) (m : Dt) : Dt → Dt
  | .ptr j => if j = n then m else .ptr j
  | .tup ds => .tup (fzL n m ds)
  | .lst ds => .lst (fzL n m ds)
  | .dic t ks ds => .dic t ks (fzL n m ds)
  | d => d
def fzL (n : Nat) (m : Dt) : List Dt → List Dt
  | [] => []
  | d :: ds => fz n m d :: fzL n m ds
end
theorem npL_iff (n : Nat) (ds : List Dt) : npL n ds = true ↔ ∀ d ∈ ds, np n d = true := by
  induction ds with
  | nil => exact ⟨fun _ d h => (nomatch h), fun _ => rfl⟩
  | cons d ds ih =>
    show (np n d && npL n ds) = true ↔ _
    rw [Bool.and_eq_true, ih]
    exact ⟨fun ⟨a, b⟩ e he => (List.mem_cons.mp he).elim (fun z => z ▸ a) (b e), fun h => ⟨h d List.mem_cons_self, fun e he => h e (List.mem_cons_of_mem _ he)⟩⟩
theorem fzL_map (n : Nat) (m : Dt) (ds : List Dt) : fzL n m ds = ds.map (fz n m) := by
  induction ds with
  | nil => rfl
  | cons d ds ih => rw [List.map_cons, ← ih] <;> rfl
mutual
theorem fz_np (n : Nat) (m : Dt) : ∀ d : Dt, np n d = true → fz n m d = d
  | .ptr j, h => by
    have : j < n := of_decide_eq_true h
    show (if j = n then m else .ptr j) = _
    rw [if_neg (by omega)]
  | .tup ds, h => congrArg Dt.tup (fzL_np n m ds h)
  | .lst ds, h => congrArg Dt.lst (fzL_np n m ds h)
  | .dic t ks ds, h => congrArg (Dt.dic t ks) (fzL_np n m ds h)
  | .non, _ => rfl
  | .bl _, _ => rfl
  | .int _, _ => rfl
  | .str _, _ => rfl
  | .obj _, _ => rfl
  | .scr _, _ => rfl
  | .abs _, _ => rfl
theorem fzL_np (n : Nat) (m : Dt) : ∀ ds : List Dt, npL n ds = true → fzL n m ds = ds
  | [], _ => rfl
  | d :: ds, h => by
    have h : (np n d && npL n ds) = true := h
    rw [Bool.and_eq_true] at h
    show fz n m d :: fzL n m ds = _
    rw [fz_np n m d h.1, fzL_np n m ds h.2]
end
section
variable {K : PySem.W.Frag} {F F' : Hp} {fi fi' : List Addr}
mutual
theorem Rp.anyK (s : Sub F F') : ∀ {n : Nat} {v : V} {d : Dt}, Rp K F fi v d → kd n d = true → Rp K F' fi' v d
  | _, _, _, .non, _ => .non
  | _, _, _, .bl b, _ => .bl b
  | _, _, _, .int i, _ => .int i
  | _, _, _, .str _, h => by simp [kd] at h
  | 0, _, _, .tup _ _, h => by simp [kd] at h
  | n + 1, _, _, .tup (ds := ds) e r, h => .tup (s _ _ e) (RpL.anyK s (n := n) r (by
      have h : ds.all (kd n) = true := by simpa [kd] using h
      exact List.all_eq_true.mp h))
  | _, _, _, .lst _ _, h => by simp [kd] at h
  | _, _, _, .dic _ _ _ _, h => by simp [kd] at h
  | _, _, _, .obj _, h => by simp [kd] at h
  | _, _, _, .ptr _, h => by simp [kd] at h
  | _, _, _, .scr _, h => by simp [kd] at h
  | _, _, _, .abs _, h => by simp [kd] at h
theorem RpL.anyK (s : Sub F F') : ∀ {n : Nat} {vs : List V} {ds : List Dt}, RpL K F fi vs ds → (∀ d ∈ ds, kd n d = true) → RpL K F' fi' vs ds
  | _, _, _, .nil, _ => .nil
  | _, _, _, .cons r rs, h => .cons (Rp.anyK s r (h _ List.mem_cons_self)) (RpL.anyK s rs fun d hd => h d (List.mem_cons_of_mem _ hd))
end
theorem keys_any {t : Bool} {a : Addr} {u : HO} {ks : List Dt} {ka vs : List V} (s : Sub F F') (k : DkO t a u ks ka vs) (h : RpL K F fi ka ks) : RpL K F' fi' ka ks := by
  cases t with
  | true =>
    obtain ⟨_, od, xs, _, _, _, _, _, hk, _⟩ := k
    exact h.anyK s hk
  | false =>
    cases u with
    | dK kvs =>
      obtain ⟨rfl, rfl, _⟩ := k
      have q := keys_rp (K := K) (F := F') (fi := fi') (kvs.map (·.1))
      rw [List.map_map, List.map_map] at q
      exact q
    | _ => exact k.elim
mutual
theorem Rp.fz {p : Addr} {n : Nat} {m : Dt} (s : Sub F F') (hn : fi.length = n) (hm : Rp K F' fi (.ref p) m) : ∀ {v : V} {d : Dt}, Rp K F (fi ++ [p]) v d → Rp K F' fi v (Dl.fz n m d)
  | _, _, .non => .non
  | _, _, .bl b => .bl b
  | _, _, .int i => .int i
  | _, _, .str x => .str x
  | _, _, .tup h r => .tup (s _ _ h) (RpL.fz s hn hm r)
  | _, _, .lst h r => .lst (s _ _ h) (RpL.fz s hn hm r)
  | _, _, .dic h k q r => .dic (s _ _ h) k (keys_any s k q) (RpL.fz s hn hm r)
  | _, _, .obj v => .obj v
  | _, _, .ptr (j := j) (a := a) h => by
    show Rp K F' fi (.ref a) (if j = n then m else .ptr j)
    by_cases e : j = n
    · rw [if_pos e]
      subst hn
      rw [e, List.getElem?_concat_length] at h
      cases h
      exact hm
    · rw [if_neg e]
      have hj : j < (fi ++ [p]).length := (List.getElem?_eq_some_iff.mp h).1
      rw [List.length_append] at hj
      have hj : j < fi.length + 1 := hj
      rw [List.getElem?_append_left (by omega)] at h
      exact .ptr h
  | _, _, .scr h => .scr (s.sql h)
  | _, _, .abs h => .abs (AbsO.mono _ s h)
theorem RpL.fz {p : Addr} {n : Nat} {m : Dt} (s : Sub F F') (hn : fi.length = n) (hm : Rp K F' fi (.ref p) m) : ∀ {vs : List V} {ds : List Dt}, RpL K F (fi ++ [p]) vs ds → RpL K F' fi vs (fzL n m ds)
  | _, _, .nil => .nil
  | _, _, .cons h r => .cons (Rp.fz s hn hm h) (RpL.fz s hn hm r)
end
mutual
theorem Rp.less {p : Addr} {n : Nat} (s : Sub F F') (hn : fi.length = n) : ∀ {v : V} {d : Dt}, Rp K F (fi ++ [p]) v d → np n d = true → Rp K F' fi v d
  | _, _, .non, _ => .non
  | _, _, .bl b, _ => .bl b
  | _, _, .int i, _ => .int i
  | _, _, .str x, _ => .str x
  | _, _, .tup h r, q => .tup (s _ _ h) (RpL.less s hn r q)
  | _, _, .lst h r, q => .lst (s _ _ h) (RpL.less s hn r q)
  | _, _, .dic h k g r, q => .dic (s _ _ h) k (keys_any s k g) (RpL.less s hn r q)
  | _, _, .obj v, _ => .obj v
  | _, _, .ptr (j := j) (a := a) h, q => by
    have hj : j < n := of_decide_eq_true q
    rw [List.getElem?_append_left (by omega)] at h
    exact .ptr h
  | _, _, .scr h, _ => .scr (s.sql h)
  | _, _, .abs h, _ => .abs (AbsO.mono _ s h)
theorem RpL.less {p : Addr} {n : Nat} (s : Sub F F') (hn : fi.length = n) : ∀ {vs : List V} {ds : List Dt}, RpL K F (fi ++ [p]) vs ds → npL n ds = true → RpL K F' fi vs ds
  | _, _, .nil, _ => .nil
  | _, _, .cons (d := d) (ds := ds) h r, q => by
    have q : (np n d && npL n ds) = true := q
    rw [Bool.and_eq_true] at q
    exact .cons (Rp.less s hn h q.1) (RpL.less s hn r q.2)
end
theorem Ob.fz {H : Hp} {p a : Addr} {n : Nat} {m d : Dt} (s : Sub F F') (hn : fi.length = n) (hm : Rp K F' fi (.ref p) m) (h : Ob K F (fi ++ [p]) H a d) : Ob K F' fi H a (Dl.fz n m d) := by
  cases d with
  | lst ds =>
    obtain ⟨vs, h1, h2⟩ := h
    exact ⟨vs, h1, h2.fz s hn hm⟩
  | dic t ks ds =>
    obtain ⟨u, ka, vs, h1, h2, h3, h4⟩ := h
    exact ⟨u, ka, vs, h1, h2, keys_any s h2 h3, h4.fz s hn hm⟩
  | _ => exact h.elim
end
/-- the cells, m in the place of the n-th shared object -/
inductive FzG (n : Nat) (m : Dt) : List Cell → List Cell → Prop
  | nil : FzG n m [] []
  | no {c : Cell} {G G' : List Cell} : FzG n m G G' → FzG n m (c :: G) (.no :: G')
  | val {d d' : Dt} {G G' : List Cell} : fz n m d = d' → FzG n m G G' → FzG n m (.val d :: G) (.val d' :: G')
  | own {d d' : Dt} {G G' : List Cell} : fz n m d = d' → FzG n m G G' → FzG n m (.own d :: G) (.own d' :: G')
theorem FzG.len {n : Nat} {m : Dt} {G G' : List Cell} (h : FzG n m G G') : G.length = G'.length := by
  induction h with
  | nil => rfl
  | _ => rename_i ih; simp [ih]
theorem FzG.getV {n : Nat} {m : Dt} {G G' : List Cell} (h : FzG n m G G') : ∀ {i : Nat} {d : Dt}, G'[i]? = some (.val d) → ∃ d0, G[i]? = some (.val d0) ∧ fz n m d0 = d := by
  induction h with
  | nil => intro i d h; simp at h
  | no _ ih => intro i d h; cases i with
    | zero => simp at h
    | succ i => exact ih (i := i) (by simpa using h)
  | val e _ ih => intro i d h; cases i with
    | zero => simp at h; exact ⟨_, rfl, e.trans h⟩
    | succ i => exact ih (i := i) (by simpa using h)
  | own e _ ih => intro i d h; cases i with
    | zero => simp at h
    | succ i => exact ih (i := i) (by simpa using h)
theorem FzG.getO {n : Nat} {m : Dt} {G G' : List Cell} (h : FzG n m G G') : ∀ {i : Nat} {d : Dt}, G'[i]? = some (.own d) → ∃ d0, G[i]? = some (.own d0) ∧ fz n m d0 = d := by
  induction h with
  | nil => intro i d h; simp at h
  | no _ ih => intro i d h; cases i with
    | zero => simp at h
    | succ i => exact ih (i := i) (by simpa using h)
  | val e _ ih => intro i d h; cases i with
    | zero => simp at h
    | succ i => exact ih (i := i) (by simpa using h)
  | own e _ ih => intro i d h; cases i with
    | zero => simp at h; exact ⟨_, rfl, e.trans h⟩
    | succ i => exact ih (i := i) (by simpa using h)
section
variable {K : PySem.W.Frag} {T : Tbs} {B : Bs} {F : Hp} {fi : List Addr} {sg : L2.St} {H : Hp} {G G' : List Cell} {mu : List Dt} {m : Dt}
/-- the last shared list is given up: it stays as it is -/
theorem DE.unshare {p : Addr} {ds : List Dt} (e : DE K T B F (fi ++ [p]) sg H G (mu ++ [.lst ds])) (hB : p ∉ B.fi) (hm : npL fi.length ds = true) (hmu : npL fi.length mu = true) (hG : FzG fi.length (.lst ds) G G') :
    ∃ F', Sub F F' ∧ DE K T B F' fi sg H G' mu := by
  have hlen : fi.length = mu.length := by
    have := e.lenm
    rw [List.length_append, List.length_append] at this
    have : fi.length + 1 = mu.length + 1 := this
    omega
  have hp : (fi ++ [p])[fi.length]? = some p := List.getElem?_concat_length ..
  have hpm : (mu ++ [Dt.lst ds])[fi.length]? = some (.lst ds) := by rw [hlen]; exact List.getElem?_concat_length ..
  obtain ⟨hF, vs, hv, hr⟩ := e.obj fi.length p _ hp hpm
  have nd := List.nodup_append.mp e.mm
  have pfi : p ∉ fi := fun h => nd.2.2 p h p (List.mem_singleton.mpr rfl) rfl
  have pT : p ∉ T := e.tabne hv (fun q z => by cases z)
  have BH : B.H p = none := by
    rcases e.fpre p (List.mem_append.mpr (.inr (List.mem_singleton.mpr rfl))) with h | h
    · exact absurd h hB
    · exact h
  have s : Sub F (upd F p (.lst vs)) := Sub.new hF
  have hr2 : RpL K (upd F p (.lst vs)) fi vs ds := RpL.less s rfl hr hm
  have rm : Rp K (upd F p (.lst vs)) fi (.ref p) (.lst ds) := .lst upd_same hr2
  refine ⟨upd F p (.lst vs), s, fun a o q => ?_, fun q hq => ?_, by rw [e.len, hG.len], hlen, fun i d h => ?_, fun i d h => ?_, fun j a d h1 h2 => ?_, fun i j d d' q h1 h2 h3 h4 => ?_, fun i d q j h1 h2 => ?_, nd.1, fun a o h1 h2 h3 => e.frame a o h1 h2 h3, fun a ha => ?_, fun a ha => ?_, fun a o h => ?_⟩
  · by_cases z : a = p
    · subst z
      rw [upd_same] at q
      cases q
      exact hv
    · rw [upd_ne z] at q
      exact e.sub a o q
  · obtain ⟨h1, ps, h2, h3, h4⟩ := e.tab q hq
    have z : q ≠ p := fun z => pT (by rw [← z]; exact hq)
    exact ⟨by rw [upd_ne z]; exact h1, ps, h2, h3, h4.mono s⟩
  · obtain ⟨d0, g1, g2⟩ := hG.getV h
    obtain ⟨v, k1, k2⟩ := e.slot i d0 g1
    exact ⟨v, k1, g2 ▸ Rp.fz s rfl rm k2⟩
  · obtain ⟨d0, g1, g2⟩ := hG.getO h
    obtain ⟨q, k1, k2, k3, k4⟩ := e.own i d0 g1
    have z : q ≠ p := fun z => e.om i d0 q fi.length g1 k1 (by rw [hp, z])
    exact ⟨q, k1, by rw [upd_ne z]; exact k2, g2 ▸ k3.fz s rfl rm, k4⟩
  · have hj : j < fi.length := (List.getElem?_eq_some_iff.mp h1).1
    obtain ⟨k1, k2⟩ := e.obj j a d (by rw [List.getElem?_append_left hj]; exact h1) (by rw [List.getElem?_append_left (by omega)]; exact h2)
    have z : a ≠ p := fun z => pfi (by rw [← z]; exact List.mem_of_getElem? h1)
    refine ⟨by rw [upd_ne z]; exact k1, ?_⟩
    have := k2.fz s rfl rm
    rw [fz_np _ _ _ ((npL_iff _ _).mp hmu d (List.mem_of_getElem? h2))] at this
    exact this
  · obtain ⟨d0, g1, _⟩ := hG.getO h1
    obtain ⟨d1, g2, _⟩ := hG.getO h2
    exact e.oo i j d0 d1 q g1 g2 h3 h4
  · obtain ⟨d0, g1, _⟩ := hG.getO h1
    intro z
    exact e.om i d0 q j g1 h2 (by rw [List.getElem?_append_left (List.getElem?_eq_some_iff.mp z).1]; exact z)
  · rcases List.mem_append.mp (e.fold a ha) with h | h
    · exact h
    · rw [List.mem_singleton.mp h] at ha
      exact absurd ha hB
  · exact e.fpre a (List.mem_append.mpr (.inl ha))
  · by_cases z : a = p
    · subst z
      exact .inr BH
    · rw [upd_ne z] at h
      exact e.fnew a o h
end
section
variable {T : Tbs} {X : Cx} {W : WX} {G G2 G3 : List Cell} {mu mu2 : List Dt} {body : List Stmt}
/-- a stretch of statements in which one list is shared, given up at its end -/
theorem ss_frozen {ds : List Dt} (h : SDs T X W G mu body (.nx G2 (mu2 ++ [.lst ds]))) (hl : mu2.length = mu.length) (hm : npL mu.length ds = true) (hmu : npL mu.length mu2 = true) (hG : FzG mu.length (.lst ds) G2 G3) : SDs T X W G mu body (.nx G3 mu2) := by
  refine pss_imp h fun D sg H ⟨B, F, fi, e, q⟩ => ⟨B, F, fi, e, fun F' fi' sg' H' s p e' => ?_⟩
  have l1 := e.lenm
  have l2 := e'.lenm
  rw [List.length_append] at l2
  have l2 : fi'.length = mu2.length + 1 := l2
  obtain ⟨r, rfl⟩ := p
  rw [List.length_append] at l2
  have hr : r.length = 1 := by omega
  obtain ⟨a, rfl⟩ := List.length_eq_one_iff.mp hr
  have nb : a ∉ B.fi := fun z => by
    have h1 := e.fold a z
    exact (List.nodup_append.mp e'.mm).2.2 a h1 a (List.mem_singleton.mpr rfl) rfl
  rw [← l1] at hm hmu hG
  obtain ⟨F2, s2, e2⟩ := e'.unshare nb hm hmu hG
  exact q F2 fi sg' H' (s.trans s2) (List.prefix_refl _) e2
end
section
variable {T : Tbs} {X : Cx} {W : WX} {G : List Cell} {mu mu1 mu2 : List Dt} {e v' : Expr} {r : Res} {d : Dt} {pos pos' apos : Pos} {x : Str}
/-- x.append(e), x a shared list -/
theorem sd_appendP {ds : List Dt} {j : Nat} (hx : EvD T X G mu e (.dat (.ptr j)) mu1) (he : EvD T X G mu1 v' (.dat d) mu2) (hm : mu2[j]? = some (.lst ds)) (hz : ds.length < 1000000) (hm1 : ∃ ds1, mu1[j]? = some (.lst ds1))
    (hbase : attributeBase e "append" X.env (eval e X.env) = eval e X.env := by rfl)
    (hfew : ((backTo pos (starEach [v'] X.env)).all (fun x => !x.1) && (backToKw pos (keywordEach [] X.env)).all (fun x => x.1.isSome) && decide ([v'].length + ([] : List Keyword).length + (if ([] : List Keyword).isEmpty then 0 else 1) < 30)) = true := by rfl)
    (hline : (apos.endLine == pos.line) = true := by rfl) (hs : starEach [v'] X.env = (false, eval v' X.env) :: starEach [] X.env := by rfl) (hplain : (backTo pos (starEach [] X.env)).any (·.1) = false := by rfl)
    (hsw : swapsWith (.Call (.Attribute e "append" apos) [v'] [] pos) none pos'.line X.env = pure false := by rfl) :
    SD T X W G mu (.Expr (.Call (.Attribute e "append" apos) [v'] [] pos) pos') (.nx G (mu2.set j (.lst (ds ++ [d])))) := by
  refine ps_imp (ps_expr (pe_bm PySem.F.plainAttrs_list PySem.F.slot_list_append PySem.F.type_list_append mt_append hx (ea_cons he ea_nil hs) hbase hfew hline hs hplain) hsw) fun D sg H ⟨B, F, fi, e, q⟩ => ?_
  refine ⟨B, F, fi, e, fun v F1 fi1 H1 s1 p1 e1 h1 => ?_⟩
  obtain ⟨ds1, hm1⟩ := hm1
  have h1' := h1
  cases h1' with
  | ptr hf =>
    obtain ⟨_, vs, k2, _⟩ := e1.obj j _ _ hf hm1
    refine ⟨.inl ⟨rfl, vs, SqL.of k2⟩, B, F1, fi1, e1, fun us F2 fi2 H2 s2 p2 e2 h2 => ?_⟩
    have hf2 := pre_get p2 hf
    obtain ⟨_, ws, k2', k3'⟩ := e2.obj j _ _ hf2 hm
    cases h2 with
    | cons hu hn =>
      cases hn
      refine ⟨_, ws, _, rfl, rfl, k2', ?_, ?_⟩
      · rw [k3'.length]
        exact Nat.lt_of_lt_of_le hz (by rw [sizeLine_eq]; decide)
      · exact q F2 fi2 _ _ (s1.trans s2) (p1.trans p2) (e2.chgP hf2 hm (k3'.append (.cons hu .nil)))
/-- x = l.pop(), l an own list -/
theorem sd_pop {ds : List Dt} (hN : X.N.Nodup) (i j : Nat) (he : EvD T X G mu e (.bor i) mu) (hG : G[i]? = some (.own (.lst (ds ++ [d])))) (hi : X.N[j]? = some x := by rfl) (hx : Loc X.env.scope x := by first | exact Or.inl rfl | exact Or.inr rfl)
    (hbase : attributeBase e "pop" X.env (eval e X.env) = eval e X.env := by rfl) (hline : (apos.endLine == pos.line) = true := by rfl)
    (hs : swapsWith (.Call (.Attribute e "pop" apos) [] [] pos) (some (.Name x pos')) p2.line X.env = pure false := by rfl)
    (hf : X.fn x = true ∨ X.env.scope.names.lookup x = some .local := by first | exact .inl rfl | exact .inr rfl) :
    SD T X W G mu (.Assign [.Name x pos'] (.Call (.Attribute e "pop" apos) [] [] pos) p2) (.nx ((G.set i (.own (.lst ds))).set j (.val d)) mu) := by
  refine ps_imp (ps_set hN hi hx (pe_bm0 PySem.F.plainAttrs_list PySem.F.slot_list_pop PySem.F.type_list_pop mt_pop he hbase hline) hs hf) fun D sg H ⟨B, F, fi, e, q⟩ => ?_
  refine ⟨B, F, fi, e, fun v F1 fi1 H1 s1 p1 e1 h1 => ?_⟩
  obtain ⟨g1, _⟩ := h1
  obtain ⟨p, k1, _, ⟨vs, k2, k3⟩, _⟩ := e1.own i _ hG
  rw [g1] at k1
  cases k1
  have hl := k3.length
  rw [List.length_append] at hl
  have hl : vs.length = ds.length + 1 := hl
  obtain ⟨y, hy, ry⟩ := k3.getD (i := ds.length) (d := d) (List.getElem?_concat_length ..)
  refine ⟨.inl ⟨rfl, vs, SqL.of k2⟩, p, vs, y, rfl, rfl, k2, by rw [hl]; exact hy, ?_⟩
  have k4 : RpL X.K F1 fi1 vs.dropLast ds := by
    have := k3.take ds.length
    rw [List.take_left] at this
    rw [List.dropLast_eq_take, hl]
    exact this
  exact q F1 fi1 _ _ s1 p1 ((e1.chg hG g1 k4).setV (i := j) ry)
/-- l += e, l an own list -/
theorem sd_ext {ds zs : List Dt} (hN : X.N.Nodup) (i : Nat) (he : EvD T X G mu e r mu1) (hG : G[i]? = some (.own (.lst ds))) (hz : ds.length + zs.length ≤ sizeLine) (l : look G r = some (.lst zs) := by rfl) (hi : X.N[i]? = some x := by rfl) (hx : Loc X.env.scope x := by first | exact Or.inl rfl | exact Or.inr rfl)
    (hf : X.fn x = true ∨ X.env.scope.names.lookup x = some .local := by first | exact .inl rfl | exact .inr rfl) :
    SD T X W G mu (.AugAssign (.Name x pos') .Add e pos) (.nx (G.set i (.own (.lst (ds ++ zs)))) mu1) := by
  refine ps_imp (ps_aug hN hi hx he iop_ext hf) fun D sg H ⟨B, F, fi, e, q⟩ => ?_
  obtain ⟨p0, k0, _⟩ := e.own i _ hG
  refine ⟨.ref p0, k0, B, F, fi, e, fun v F1 fi1 H1 s1 p1 e1 h1 => ?_⟩
  obtain ⟨p, k1, _, ⟨vs, k2, k3⟩, _⟩ := e1.own i _ hG
  rw [k0] at k1
  cases k1
  obtain ⟨b, ws, rfl, m1, m2⟩ := (e1.view h1 l).lst e1.sub
  refine ⟨p0, b, vs, ws, rfl, rfl, k2, m1, by rw [k3.length, m2.length]; exact hz, ?_⟩
  have e2 := e1.chg hG k0 (k3.append m2)
  have es : sg.set i (some (.ref p0)) = sg := by
    apply List.ext_getElem?
    intro j
    by_cases z : j = i
    · subst z
      rw [List.getElem?_set_self (List.getElem?_eq_some_iff.mp k0).1, k0]
    · rw [List.getElem?_set_ne (fun q => z q.symm)]
  show D.nx (sg.set i (some (.ref p0))) _
  rw [es]
  exact q F1 fi1 _ _ s1 p1 e2
end
/-- the greatest -/
def maxD (j : Int) : List Int → Int
  | [] => j
  | x :: r => r.foldl max x
theorem fold_max (r : List Int) : ∀ x : Int, (r.foldl max x = x ∨ r.foldl max x ∈ r) ∧ x ≤ r.foldl max x ∧ ∀ y ∈ r, y ≤ r.foldl max x := by
  induction r with
  | nil => intro x; exact ⟨.inl rfl, Int.le_refl _, fun y h => nomatch h⟩
  | cons a r ih =>
    intro x
    obtain ⟨h1, h2, h3⟩ := ih (max x a)
    rw [List.foldl_cons]
    refine ⟨?_, by omega, fun y hy => ?_⟩
    · rcases h1 with h | h
      · rw [h]
        by_cases hx : a ≤ x
        · exact .inl (by omega)
        · exact .inr (by have : max x a = a := by omega
                         rw [this]; exact List.mem_cons_self)
      · exact .inr (List.mem_cons_of_mem _ h)
    · rcases List.mem_cons.mp hy with e | e
      · rw [e]; omega
      · exact h3 y e
theorem maxD_mem {j : Int} {l : List Int} (h : l ≠ []) : maxD j l ∈ l := by
  cases l with
  | nil => exact absurd rfl h
  | cons x r =>
    rcases (fold_max r x).1 with e | e
    · show r.foldl max x ∈ _
      rw [e]
      exact List.mem_cons_self
    · exact List.mem_cons_of_mem _ e
theorem maxD_ge {j : Int} {l : List Int} {y : Int} (h : y ∈ l) : y ≤ maxD j l := by
  cases l with
  | nil => cases h
  | cons x r =>
    rcases List.mem_cons.mp h with e | e
    · rw [e]; exact (fold_max r x).2.1
    · exact (fold_max r x).2.2 y e
theorem maxD_eq {j : Int} {l : List Int} {m : Int} (h : m ∈ l) (h2 : ∀ y ∈ l, y ≤ m) : m = maxD j l := by
  have h3 := maxD_mem (j := j) (List.ne_nil_of_mem h)
  have h4 := h2 _ h3
  have h5 := maxD_ge (j := j) h
  omega
section
variable {T : Tbs} {X : Cx} {G : List Cell} {mu mu1 mu2 : List Dt} {e o dx : Expr} {r : Res} {pos p apos kpos : Pos}
/-- max(xs) of ints -/
theorem ev_maxL {ns : List Int} (hc : X.calm = true) (h : EvD T X G mu e r mu1) (hm : X.mg "max" = none) (hne : ns ≠ []) (l : look G r = some (.lst (ns.map Dt.int))) (hg : Gl X "max" := by rfl) (he : starEach [e] X.env = (false, eval e X.env) :: starEach [] X.env := by rfl) :
    EvD T X G mu (.Call (.Name "max" p) [e] [] pos) (.dat (.int (maxD 0 ns))) mu1 := by
  refine ev_B (cr_max hc) (cd_one l fun F fi H v Q s hv q => ?_) (ea_cons h ea_nil he) hm boot_max hg (by decide) (by decide) he
  obtain ⟨a, vs, rfl, h1, h2⟩ := hv.lst s
  have e1 := h2.ints
  subst e1
  exact ⟨a, ns, rfl, SqL.of h1, List.length_pos_iff.mpr hne, fun m h1 h2 => by rw [maxD_eq h1 h2]; exact q _ (.int _)⟩
/-- max(xs, default=j) of ints -/
theorem ev_maxDef {ns : List Int} {j : Int} (hc : X.calm = true) (h : EvD T X G mu e r mu1) (hd : EvD T X G mu1 dx (.dat (.int j)) mu2) (hm : X.mg "max" = none) (l : look G r = some (.lst (ns.map Dt.int))) (hg : Gl X "max" := by rfl) (he : starEach [e] X.env = (false, eval e X.env) :: starEach [] X.env := by rfl)
    (hpl : (backTo pos (starEach [e] X.env)).any (·.1) = false := by rfl) (he2 : backTo pos (starEach [e] X.env) = (false, eval e X.env) :: backTo pos (starEach [] X.env) := by rfl) :
    EvD T X G mu (.Call (.Name "max" p) [e] [⟨some "default", dx, kpos⟩] pos) (.dat (.int (maxD j ns))) mu2 := by
  refine pe_imp (pe_callBK (Dn.cr_maxDef hc) hg hm boot_max (ea_cons h ea_nil he) (pk_cons hd pk_nil) (by decide) (by decide) he2 hpl) fun sg H Q ⟨B, F, fi, e, q⟩ => ?_
  refine ⟨B, F, fi, e, fun vs F1 fi1 H1 s1 p1 e1 m1 => ⟨B, F1, fi1, e1, fun z F2 fi2 H2 s2 p2 e2 m2 => ?_⟩⟩
  cases m1 with
  | cons q1 q2 =>
    cases q2
    obtain ⟨a, ws, rfl, h1, h2⟩ := (e2.viewH (q1.keep s2 p2) l).lst e2.sub
    have ei := h2.ints
    subst ei
    refine ⟨a, ns, z, rfl, rfl, SqL.of h1, fun hn => ?_, fun m h1 h2 => ?_⟩
    · subst hn
      exact q z F2 fi2 H2 (s1.trans s2) (p1.trans p2) e2 m2
    · rw [maxD_eq (j := j) h1 h2]
      exact q _ F2 fi2 H2 (s1.trans s2) (p1.trans p2) e2 (.int _)
/-- max(d.values(), default=j) of ints -/
theorem ev_maxVals {ck : Nat} {dpos : Pos} {κ : Type} {t : κ → Dt} [DecidableEq κ] (kt : KeyT κ t) {kvs : List (κ × Dt)} {ns : List Int} {j : Int} (hc : X.calm = true) (h : EvD T X G mu o (.dat (dicN t kvs)) mu1) (hm : X.mg "max" = none) (hv : kvs.map (·.2) = ns.map Dt.int) (hg : Gl X "max" := by rfl)
    (hbase : attributeBase o "values" X.env (eval o X.env) = eval o X.env := by rfl) (hline : (apos.endLine == cpos.line) = true := by rfl)
    (he : starEach [.Call (.Attribute o "values" apos) [] [] cpos] X.env = (false, eval (.Call (.Attribute o "values" apos) [] [] cpos) X.env) :: starEach [] X.env := by rfl)
    (hpl : (backTo pos (starEach [.Call (.Attribute o "values" apos) [] [] cpos] X.env)).any (·.1) = false := by rfl) (he2 : backTo pos (starEach [.Call (.Attribute o "values" apos) [] [] cpos] X.env) = (false, eval (.Call (.Attribute o "values" apos) [] [] cpos) X.env) :: backTo pos (starEach [] X.env) := by rfl) :
    EvD T X G mu (.Call (.Name "max" p) [.Call (.Attribute o "values" apos) [] [] cpos] [⟨some "default", .Constant (.int j) ck dpos, kpos⟩] pos) (.dat (.int (maxD j ns))) mu1 := by
  refine pe_imp (pe_callBK (Dn.cr_maxVals hc) hg hm boot_max (pa_cons (Dn.pe_nvals h hbase hline) pa_nil he) (pk_cons pe_int pk_nil) (by decide) (by decide) he2 hpl) fun sg H Q ⟨B, F, fi, e, q⟩ => ?_
  refine ⟨B, F, fi, e, fun v F1 fi1 H1 s1 p1 e1 m1 => ?_⟩
  cases m1 with
  | @dic a _ u _ ka vs _ h1 h2 h3 h4 =>
    obtain ⟨xs, g1, g2⟩ := viewN (kvs := kvs) kt e1.sub (e1.sub _ _ h1) h2 h3 h4
    refine ⟨a, xs, rfl, g1, fun pw hp => ?_⟩
    obtain ⟨e1', hF, _, _, _⟩ := e1.put hp (Dn.viewV pw a)
    obtain ⟨xs2, k1, k2⟩ := viewN (kvs := kvs) kt e1'.sub (e1'.sub _ _ h1) h2 h3 h4
    have hv2 : xs2.map (·.2.2) = ns.map V.int := by
      have := k2.to.2.2
      rw [hv] at this
      exact this.ints
    refine ⟨pw, a, xs2, ns, .int j, rfl, rfl, upd_same, k1, hv2, fun hn => ?_, fun m h1 h2 => ?_⟩
    · subst hn
      exact q _ F1 fi1 _ s1 p1 e1' (.int _)
    · rw [maxD_eq (j := j) h1 h2]
      exact q _ F1 fi1 _ s1 p1 e1' (.int _)
end
end Dl

set_option Elab.async false
set_option linter.all false
set_option maxRecDepth 100000
set_option maxHeartbeats 4000000
/-! DlW: while loops by a measure; all, any by a test; len of a dict; an object taken over. -/
namespace Dn
open PySem PySem.Spec PyProof.Rows L2
theorem call_len_n {X : Cx} : CallR X (.builtin "len") (fun vs H Q => ∃ d xs, vs = [V.ref d] ∧ NRd H d xs ∧ Q (.int ((xs.length : Nat) : Int)) H) := by
  intro pins s σ H vs us Q I r h
  obtain ⟨d, xs, rfl, g, q⟩ := h
  obtain ⟨u, rfl, rx⟩ := r.one
  cases rx
  obtain ⟨zs, rel, dd⟩ := n_rd I.hok g
  have hl := rel_len rel
  have hz := g.2.1
  rw [sizeLine_eq] at hz
  refine call_len_dictH g.1 dd (by omega) ?_
  exact ⟨.int ((xs.length : Nat) : Int), H, I.tok _, ⟨_, by rw [hl]⟩, q⟩
end Dn
namespace Dl
open PySem PySem.Spec PyProof.Rows L2
section
variable {T : Tbs} {X : Cx} {G : List Cell} {mu mu1 : List Dt} {e : Expr} {r : Res} {pos p : Pos} {κ : Type} {t : κ → Dt} [DecidableEq κ]
/-- len(d) -/
theorem ev_lenN (kt : KeyT κ t) {kvs : List (κ × Dt)} (h : EvD T X G mu e r mu1) (hm : X.mg "len" = none) (l : look G r = some (dicN t kvs) := by rfl) (hg : Gl X "len" := by rfl) (he : starEach [e] X.env = (false, eval e X.env) :: starEach [] X.env := by rfl) :
    EvD T X G mu (.Call (.Name "len" p) [e] [] pos) (.dat (.int (kvs.length : Nat))) mu1 := by
  refine ev_B Dn.call_len_n (cd_one l fun F fi H v Q s hv q => ?_) (ea_cons h ea_nil he) hm boot_len hg (by decide) (by decide) he
  obtain ⟨a, xs, rfl, g, en⟩ := hv.dicN kt s
  exact ⟨a, xs, rfl, g, by rw [Dn.rel_len en]; exact q _ (.int _)⟩
end
section
variable {T : Tbs} {X : Cx} {W : WX} {G G2 : List Cell} {mu mu2 : List Dt} {m : Dt} {st : Stmt}
def npC (n : Nat) : Cell → Bool
  | .val d => np n d
  | .own d => np n d
  | .no => true
/-- a shared object that one name holds becomes its own -/
theorem sd_take (i : Nat) (h : SD T X W G mu st (.nx G2 (mu2 ++ [m]))) (hl : mu2.length = mu.length) (hi : G2[i]? = some (.val (.ptr mu.length))) (hG : ((G2.set i .no).all (npC mu.length)) = true) (hmu : npL mu.length mu2 = true) (hm : np mu.length m = true) : SD T X W G mu st (.nx (G2.set i (.own m)) mu2) := by
  refine ps_imp h fun D sg H ⟨B, F, fi, e, q⟩ => ⟨B, F, fi, e, fun F' fi' sg' H' s p e' => ?_⟩
  have l1 := e.lenm
  have l2 := e'.lenm
  rw [List.length_append] at l2
  have l2 : fi'.length = mu2.length + 1 := l2
  obtain ⟨r, rfl⟩ := p
  rw [List.length_append] at l2
  have hr : r.length = 1 := by omega
  obtain ⟨a, rfl⟩ := List.length_eq_one_iff.mp hr
  have nd := List.nodup_append.mp e'.mm
  have afi : a ∉ fi := fun z => nd.2.2 a z a (List.mem_singleton.mpr rfl) rfl
  have nb : a ∉ B.fi := fun z => afi (e.fold a z)
  have BH : B.H a = none := by
    rcases e'.fpre a (List.mem_append.mpr (.inr (List.mem_singleton.mpr rfl))) with z | z
    · exact absurd z nb
    · exact z
  rw [← l1] at hi hG hmu hm
  have hp : (fi ++ [a])[fi.length]? = some a := List.getElem?_concat_length ..
  have hpm : (mu2 ++ [m])[fi.length]? = some m := by rw [show fi.length = mu2.length by omega]; exact List.getElem?_concat_length ..
  obtain ⟨hF, ho⟩ := e'.obj fi.length a m hp hpm
  have ob : ∀ {x : Addr} {d : Dt}, np fi.length d = true → Ob X.K F' (fi ++ [a]) H' x d → Ob X.K F' fi H' x d := fun {x d} hn k => by
    cases d with
    | lst ds =>
      obtain ⟨vs, h1, h2⟩ := k
      exact ⟨vs, h1, RpL.less (Sub.refl _) rfl h2 hn⟩
    | dic t ks ds =>
      obtain ⟨u, ka, vs, h1, h2, h3, h4⟩ := k
      exact ⟨u, ka, vs, h1, h2, keys_any (Sub.refl _) h2 h3, RpL.less (Sub.refl _) rfl h4 hn⟩
    | _ => exact k.elim
  have ilt : i < G2.length := (List.getElem?_eq_some_iff.mp hi).1
  have cellOk : ∀ {j : Nat} {c : Cell}, j ≠ i → G2[j]? = some c → npC fi.length c = true := fun {j c} hj hc => by
    refine List.all_eq_true.mp hG c (List.mem_of_getElem? (i := j) ?_)
    rw [List.getElem?_set_ne (fun z => hj z.symm)]
    exact hc
  have slotA : sg'[i]? = some (some (.ref a)) := by
    obtain ⟨v, h1, h2⟩ := e'.slot i _ hi
    cases h2 with
    | ptr hq =>
      rw [hp] at hq
      cases hq
      exact h1
  refine q F' fi sg' H' s (List.prefix_refl _) ⟨e'.sub, e'.tab, by rw [List.length_set]; exact e'.len, by omega, fun j d hj => ?_, fun j d hj => ?_, fun j b d h1 h2 => ?_, fun j k d d' x h1 h2 h3 h4 => ?_, fun j d x k h1 h2 => ?_, nd.1, e'.frame, fun b hb => ?_, fun b hb => e'.fpre b (List.mem_append.mpr (.inl hb)), e'.fnew⟩
  · by_cases z : j = i
    · subst z
      rw [List.getElem?_set_self ilt] at hj
      cases hj
    · rw [List.getElem?_set_ne (fun y => z y.symm)] at hj
      obtain ⟨v, h1, h2⟩ := e'.slot j d hj
      exact ⟨v, h1, Rp.less (Sub.refl _) rfl h2 (cellOk z hj)⟩
  · by_cases z : j = i
    · subst z
      rw [List.getElem?_set_self ilt] at hj
      cases hj
      exact ⟨a, slotA, hF, ob hm ho, BH⟩
    · rw [List.getElem?_set_ne (fun y => z y.symm)] at hj
      obtain ⟨x, h1, h2, h3, h4⟩ := e'.own j d hj
      exact ⟨x, h1, h2, ob (cellOk z hj) h3, h4⟩
  · have hj : j < fi.length := (List.getElem?_eq_some_iff.mp h1).1
    obtain ⟨k1, k2⟩ := e'.obj j b d (by rw [List.getElem?_append_left hj]; exact h1) (by rw [List.getElem?_append_left (by omega)]; exact h2)
    exact ⟨k1, ob ((npL_iff _ _).mp hmu d (List.mem_of_getElem? h2)) k2⟩
  · by_cases zj : j = i
    · by_cases zk : k = i
      · rw [zj, zk]
      · rw [List.getElem?_set_ne (fun y => zk y.symm)] at h2
        rw [zj, slotA] at h3
        cases h3
        exact absurd hp (e'.om k d' a fi.length h2 h4)
    · rw [List.getElem?_set_ne (fun y => zj y.symm)] at h1
      by_cases zk : k = i
      · rw [zk, slotA] at h4
        cases h4
        exact absurd hp (e'.om j d a fi.length h1 h3)
      · rw [List.getElem?_set_ne (fun y => zk y.symm)] at h2
        exact e'.oo j k d d' x h1 h2 h3 h4
  · by_cases z : j = i
    · rw [z, slotA] at h2
      cases h2
      intro y
      exact afi (List.mem_of_getElem? y)
    · rw [List.getElem?_set_ne (fun y => z y.symm)] at h1
      intro y
      exact e'.om j d x k h1 h2 (by rw [List.getElem?_append_left (List.getElem?_eq_some_iff.mp y).1]; exact y)
  · rcases List.mem_append.mp (e'.fold b hb) with z | z
    · exact z
    · rw [List.mem_singleton.mp z] at hb
      exact absurd hb nb
end
/-- step by step until it stops -/
def iterW {α : Type} (step : α → α) (stop : α → Bool) : Nat → α → α
  | 0, a => a
  | n + 1, a => if stop a = true then a else iterW step stop n (step a)
/-- step by step until it ends with a result -/
def iterR {α ρ : Type} (step : α → α) (fin : α → Option ρ) (z : ρ) : Nat → α → ρ
  | 0, _ => z
  | n + 1, a => match fin a with
    | some r => r
    | none => iterR step fin z n (step a)
theorem iterW_P {α : Type} {step : α → α} {stop : α → Bool} {P : α → Prop} {meas : α → Nat} (h : ∀ a, P a → stop a = false → P (step a) ∧ meas (step a) < meas a) : ∀ (n : Nat) (a : α), meas a ≤ n → P a → P (iterW step stop n a) ∧ stop (iterW step stop n a) = true
  | 0, a, hm, hp => by
    refine ⟨hp, ?_⟩
    cases e : stop a with
    | true => exact e
    | false => have := (h a hp e).2; omega
  | n + 1, a, hm, hp => by
    unfold iterW
    cases e : stop a with
    | true => rw [if_pos rfl]; exact ⟨hp, e⟩
    | false =>
      rw [if_neg (by decide)]
      obtain ⟨h1, h2⟩ := h a hp e
      exact iterW_P h n (step a) (by omega) h1
theorem iterR_P {α ρ : Type} {step : α → α} {fin : α → Option ρ} {z : ρ} {P : α → Prop} {R : ρ → Prop} {meas : α → Nat} (h : ∀ a, P a → fin a = none → P (step a) ∧ meas (step a) < meas a) (h2 : ∀ a r, P a → fin a = some r → R r) : ∀ (n : Nat) (a : α), meas a < n → P a → R (iterR step fin z n a)
  | 0, a, hm, hp => absurd hm (by omega)
  | n + 1, a, hm, hp => by
    unfold iterR
    cases e : fin a with
    | some r => exact h2 a r hp e
    | none =>
      obtain ⟨h1, h3⟩ := h a hp e
      exact iterR_P h h2 n (step a) (by omega) h1
section
variable {T : Tbs} {X : Cx} {W : WX} {c : Expr} {body : List Stmt} {mu : List Dt}
theorem while_fuel {α : Type} (C : α → List Cell) (step : α → α) (stop : α → Bool) (meas : α → Nat) (P : α → Prop) (h1 : ∀ a, P a → EvT T X (C a) mu c (!stop a) mu)
    (h2 : ∀ a, P a → stop a = false → P (step a) ∧ meas (step a) < meas a ∧ ∃ G2, SDs T X W (C a) mu body (.nx G2 mu) ∧ Wk (C (step a)) G2) : ∀ (n : Nat) (a : α), meas a ≤ n → P a → WhileTo T X W c body n (C a) mu (.nx (C (iterW step stop n a)) mu)
  | 0, a, hm, hp => by
    have k := h1 a hp
    cases e : stop a with
    | true => rw [e] at k; exact .done k
    | false => have := (h2 a hp e).2.1; omega
  | n + 1, a, hm, hp => by
    have k := h1 a hp
    unfold iterW
    cases e : stop a with
    | true => rw [e] at k; rw [if_pos rfl]; exact .done k
    | false =>
      rw [e] at k
      rw [if_neg (by decide)]
      obtain ⟨p1, p2, G2, p3, p4⟩ := h2 a hp e
      exact .next k (ss_weak p3 p4) (while_fuel C step stop meas P h1 h2 n (step a) (by omega) p1)
/-- while True: .. return .. -/
theorem while_ret {α : Type} (C : α → List Cell) (step : α → α) (fin : α → Option Dt) (z : Dt) (meas : α → Nat) (P : α → Prop) (h1 : ∀ a, P a → EvT T X (C a) mu c true mu)
    (h2 : ∀ a, P a → fin a = none → P (step a) ∧ meas (step a) < meas a ∧ ∃ G2, SDs T X W (C a) mu body (.nx G2 mu) ∧ Wk (C (step a)) G2) (h3 : ∀ a r, P a → fin a = some r → SDs T X W (C a) mu body (.ret (.dat r) mu)) : ∀ (n : Nat) (a : α), meas a < n → P a → WhileTo T X W c body n (C a) mu (.ret (.dat (iterR step fin z n a)) mu)
  | 0, a, hm, hp => absurd hm (by omega)
  | n + 1, a, hm, hp => by
    unfold iterR
    cases e : fin a with
    | some r => exact .ret (h1 a hp) (h3 a r hp e)
    | none =>
      obtain ⟨p1, p2, G2, p3, p4⟩ := h2 a hp e
      exact .next (h1 a hp) (ss_weak p3 p4) (while_ret C step fin z meas P h1 h2 h3 n (step a) (by omega) p1)
end
section
variable {T : Tbs} {X : Cx} {N : List Str} {scope : Scope} {vs : List Nat} {G : List Cell} {mu : List Dt} {tg elt : Expr}
theorem gx_allB {α : Type} (t : α → Dt) (q : α → Bool) : ∀ {l : List α}, (∀ a ∈ l, ∃ (G' : List Cell) (ix : List Nat), GxAll X N scope (fun Y => PG Y tg (rdG X.K T G mu (t a) G' ix)) ∧ (∀ j ∈ ix, j ∈ vs) ∧ wipeC G' vs = G ∧ GxAll X N scope (fun Y => PE Y elt (rd X.K T G' mu (.dat (.bl (q a))) mu))) →
    GxTo T X N scope vs true G tg elt (l.map t) mu (l.all q) mu
  | [], _ => .nil
  | a :: l, h => by
    obtain ⟨G', ix, h1, h2, h3, h4⟩ := h a List.mem_cons_self
    rw [List.map_cons, List.all_cons]
    cases e : q a with
    | true =>
      rw [e] at h4
      exact .go h1 h2 h3 h4 (gx_allB t q fun b hb => h b (List.mem_cons_of_mem _ hb))
    | false =>
      rw [e] at h4
      exact .stop h1 h2 h3 h4
theorem gx_anyB {α : Type} (t : α → Dt) (q : α → Bool) : ∀ {l : List α}, (∀ a ∈ l, ∃ (G' : List Cell) (ix : List Nat), GxAll X N scope (fun Y => PG Y tg (rdG X.K T G mu (t a) G' ix)) ∧ (∀ j ∈ ix, j ∈ vs) ∧ wipeC G' vs = G ∧ GxAll X N scope (fun Y => PE Y elt (rd X.K T G' mu (.dat (.bl (q a))) mu))) →
    GxTo T X N scope vs false G tg elt (l.map t) mu (l.any q) mu
  | [], _ => .nil
  | a :: l, h => by
    obtain ⟨G', ix, h1, h2, h3, h4⟩ := h a List.mem_cons_self
    rw [List.map_cons, List.any_cons]
    cases e : q a with
    | false =>
      rw [e] at h4
      exact .go h1 h2 h3 h4 (gx_anyB t q fun b hb => h b (List.mem_cons_of_mem _ hb))
    | true =>
      rw [e] at h4
      exact .stop h1 h2 h3 h4
end
end Dl

set_option Elab.async false
set_option linter.all false
set_option maxRecDepth 100000
set_option maxHeartbeats 4000000
/-! DlG: webs in plain Lean: what can be come to, how far it goes. -/
namespace Dl
section
variable {κ : Type} [DecidableEq κ]
theorem nodup_sub : ∀ (l u : List κ), l.Nodup → (∀ x ∈ l, x ∈ u) → l.length ≤ u.length
  | [], _, _, _ => Nat.zero_le _
  | x :: l, u, hn, h => by
    have hx := h x List.mem_cons_self
    have hn2 := List.nodup_cons.mp hn
    have := nodup_sub l (u.erase x) hn2.2 fun y hy => by
      have ne : y ≠ x := fun e => hn2.1 (e ▸ hy)
      exact (List.mem_erase_of_ne ne).mpr (h y (List.mem_cons_of_mem _ hy))
    rw [List.length_erase_of_mem hx] at this
    have := List.length_pos_of_mem hx
    rw [List.length_cons]
    omega
variable (nx : κ → List κ)
inductive Reach (st : List κ) : κ → Prop
  | start {k : κ} : k ∈ st → Reach st k
  | step {k j : κ} : Reach st k → j ∈ nx k → Reach st j
def stepW (s : List κ × List κ) : List κ × List κ := match s.2.getLast? with
  | none => s
  | some k => if k ∈ s.1 then (s.1, s.2.dropLast) else (s.1 ++ [k], s.2.dropLast ++ nx k)
structure WInv (st : List κ) (s : List κ × List κ) : Prop where
  nd : s.1.Nodup
  r1 : ∀ k ∈ s.1, Reach nx st k
  r2 : ∀ k ∈ s.2, Reach nx st k
  cl : ∀ k ∈ s.1, ∀ j ∈ nx k, j ∈ s.1 ∨ j ∈ s.2
  st : ∀ k ∈ st, k ∈ s.1 ∨ k ∈ s.2
def measW (N D : Nat) (s : List κ × List κ) : Nat := (N - s.1.length) * (D + 1) + s.2.length
/-- all that can be come to is among so many, with so many next ones at most -/
structure WFin (st univ : List κ) (D : Nat) : Prop where
  un : ∀ k, Reach nx st k → k ∈ univ
  dg : ∀ k, Reach nx st k → (nx k).length ≤ D
variable {nx}
theorem stepW_last {s : List κ × List κ} {w : List κ} {k : κ} (h : s.2 = w ++ [k]) : stepW nx s = if k ∈ s.1 then (s.1, w) else (s.1 ++ [k], w ++ nx k) := by
  unfold stepW
  rw [h, List.getLast?_append, List.getLast?_singleton, List.dropLast_concat] <;> rfl
theorem last_of {l : List κ} (h : l.isEmpty = false) : ∃ w k, l = w ++ [k] := by
  have hne : l ≠ [] := fun z => by rw [z] at h; cases h
  exact ⟨l.dropLast, l.getLast hne, (List.dropLast_concat_getLast hne).symm⟩
theorem WInv.step {st univ : List κ} {D : Nat} (f : WFin nx st univ D) {s : List κ × List κ} (h : WInv nx st s) (he : s.2.isEmpty = false) : WInv nx st (stepW nx s) ∧ measW univ.length D (stepW nx s) < measW univ.length D s := by
  obtain ⟨w, k, e⟩ := last_of he
  rw [stepW_last e]
  have hk : Reach nx st k := h.r2 k (by rw [e]; exact List.mem_append.mpr (.inr (List.mem_singleton.mpr rfl)))
  have cut : ∀ j, j ∈ s.2 → j ∈ w ∨ j = k := fun j hj => by
    rw [e] at hj
    rcases List.mem_append.mp hj with z | z
    · exact .inl z
    · exact .inr (List.mem_singleton.mp z)
  split
  · rename_i hm
    refine ⟨⟨h.nd, h.r1, fun j hj => h.r2 j (by rw [e]; exact List.mem_append.mpr (.inl hj)), fun i hi j hj => ?_, fun i hi => ?_⟩, ?_⟩
    · rcases h.cl i hi j hj with z | z
      · exact .inl z
      · rcases cut j z with z | z
        · exact .inr z
        · exact .inl (z ▸ hm)
    · rcases h.st i hi with z | z
      · exact .inl z
      · rcases cut i z with z | z
        · exact .inr z
        · exact .inl (z ▸ hm)
    · unfold measW
      rw [e, List.length_append]
      show (univ.length - s.1.length) * (D + 1) + w.length < (univ.length - s.1.length) * (D + 1) + (w.length + 1)
      omega
  · rename_i hm
    have nd2 : (s.1 ++ [k]).Nodup := List.nodup_append.mpr ⟨h.nd, by simp, fun a ha b hb => by
      rw [List.mem_singleton.mp hb]
      intro z
      exact hm (z ▸ ha)⟩
    have r12 : ∀ j ∈ s.1 ++ [k], Reach nx st j := fun j hj => by
      rcases List.mem_append.mp hj with z | z
      · exact h.r1 j z
      · rw [List.mem_singleton.mp z]; exact hk
    refine ⟨⟨nd2, r12, fun j hj => ?_, fun i hi j hj => ?_, fun i hi => ?_⟩, ?_⟩
    · rcases List.mem_append.mp hj with z | z
      · exact h.r2 j (by rw [e]; exact List.mem_append.mpr (.inl z))
      · exact .step hk z
    · rcases List.mem_append.mp hi with z | z
      · rcases h.cl i z j hj with y | y
        · exact .inl (List.mem_append.mpr (.inl y))
        · rcases cut j y with y | y
          · exact .inr (List.mem_append.mpr (.inl y))
          · exact .inl (List.mem_append.mpr (.inr (List.mem_singleton.mpr y)))
      · rw [List.mem_singleton.mp z] at hj
        exact .inr (List.mem_append.mpr (.inr hj))
    · rcases h.st i hi with z | z
      · exact .inl (List.mem_append.mpr (.inl z))
      · rcases cut i z with z | z
        · exact .inr (List.mem_append.mpr (.inl z))
        · exact .inl (List.mem_append.mpr (.inr (List.mem_singleton.mpr z)))
    · have hl := nodup_sub _ univ nd2 fun j hj => f.un j (r12 j hj)
      rw [List.length_append] at hl
      have hl : s.1.length + 1 ≤ univ.length := hl
      have hd := f.dg k hk
      unfold measW
      rw [e]
      show (univ.length - (s.1 ++ [k]).length) * (D + 1) + (w ++ nx k).length < (univ.length - s.1.length) * (D + 1) + (w ++ [k]).length
      rw [List.length_append, List.length_append, List.length_append, List.length_singleton]
      have e2 : univ.length - s.1.length = (univ.length - (s.1.length + 1)) + 1 := by omega
      rw [e2, Nat.add_mul, Nat.one_mul]
      omega
/-- the keys of the web, in the order in which they come -/
def webK (nx : κ → List κ) (fuel : Nat) (st : List κ) : List κ := (iterW (stepW nx) (fun s => s.2.isEmpty) fuel ([], st)).1
theorem WInv.init (st : List κ) : WInv nx st ([], st) := ⟨List.nodup_nil, fun _ h => (nomatch h), fun k h => .start h, fun _ h => (nomatch h), fun k h => .inr h⟩
theorem webK_ok {st univ : List κ} {D fuel : Nat} (f : WFin nx st univ D) (h : univ.length * (D + 1) + st.length ≤ fuel) : (webK nx fuel st).Nodup ∧ ∀ k, k ∈ webK nx fuel st ↔ Reach nx st k := by
  obtain ⟨h1, h2⟩ := iterW_P (P := WInv nx st) (meas := measW univ.length D) (stop := fun s => s.2.isEmpty) (fun a ha he => ha.step f he) fuel ([], st) (by unfold measW; simpa using h) (.init st)
  have e : (iterW (stepW nx) (fun s => s.2.isEmpty) fuel ([], st)).2 = [] := List.isEmpty_iff.mp h2
  have no : ∀ {k}, k ∈ (iterW (stepW nx) (fun s => s.2.isEmpty) fuel ([], st)).2 → False := fun {k} hk => by rw [e] at hk; cases hk
  refine ⟨h1.nd, fun k => ⟨h1.r1 k, fun hr => ?_⟩⟩
  induction hr with
  | start hk => exact (h1.st _ hk).elim id fun z => (no z).elim
  | step _ hj ih => exact (h1.cl _ ih _ hj).elim id fun z => (no z).elim
/-- n steps can be done -/
def LP (nx : κ → List κ) : Nat → κ → Prop
  | 0, _ => True
  | n + 1, k => ∃ j ∈ nx k, LP nx n j
theorem LP.less : ∀ {n : Nat} {k : κ}, LP nx (n + 1) k → LP nx n k
  | 0, _, _ => True.intro
  | n + 1, _, ⟨j, h1, h2⟩ => ⟨j, h1, LP.less h2⟩
theorem LP.le {n m : Nat} {k : κ} (h : LP nx m k) (hn : n ≤ m) : LP nx n k := by
  induction m with
  | zero =>
    have : n = 0 := by omega
    subst this
    exact h
  | succ m ih =>
    by_cases e : n = m + 1
    · subst e; exact h
    · exact ih h.less (by omega)
theorem Reach.lp {st : List κ} {k : κ} (h : Reach nx st k) : ∀ n, LP nx n k → ∃ s ∈ st, LP nx n s := by
  induction h with
  | start hk => exact fun n hn => ⟨_, hk, hn⟩
  | step _ hj ih => exact fun n hn => ih n (LP.less ⟨_, hj, hn⟩)
/-! ### tables from keys to numbers -/
def hasK (f : List (κ × Int)) (k : κ) : Bool := f.any fun p => decide (p.1 = k)
def lookI (f : List (κ × Int)) (k : κ) : Int := ((f.find? fun p => decide (p.1 = k)).map (·.2)).getD 0
theorem hasK_iff {f : List (κ × Int)} {k : κ} : hasK f k = true ↔ k ∈ f.map (·.1) := by
  unfold hasK
  rw [List.any_eq_true, List.mem_map]
  exact ⟨fun ⟨p, h1, h2⟩ => ⟨p, h1, of_decide_eq_true h2⟩, fun ⟨p, h1, h2⟩ => ⟨p, h1, decide_eq_true h2⟩⟩
theorem lookI_mem {f : List (κ × Int)} {k : κ} (h : hasK f k = true) : (k, lookI f k) ∈ f := by
  unfold hasK at h
  unfold lookI
  cases e : f.find? fun p => decide (p.1 = k) with
  | none =>
    obtain ⟨p, h1, h2⟩ := List.any_eq_true.mp h
    have := List.find?_eq_none.mp e p h1
    exact absurd h2 this
  | some p =>
    have h1 := List.mem_of_find?_eq_some e
    have h2 : p.1 = k := of_decide_eq_true (List.find?_some (p := fun p : κ × Int => decide (p.1 = k)) e)
    show (k, p.2) ∈ f
    rw [← h2]
    exact h1
theorem lookI_eq {f : List (κ × Int)} (nd : (f.map (·.1)).Nodup) {k : κ} {r : Int} (h : (k, r) ∈ f) : lookI f k = r := by
  have hk : hasK f k = true := hasK_iff.mpr (List.mem_map.mpr ⟨_, h, rfl⟩)
  have h2 := lookI_mem hk
  obtain ⟨i, hi, e1⟩ := List.mem_iff_getElem.mp h
  obtain ⟨j, hj, e2⟩ := List.mem_iff_getElem.mp h2
  have a1 : (f.map (·.1))[i]'(by rw [List.length_map]; exact hi) = k := by rw [List.getElem_map, e1]
  have a2 : (f.map (·.1))[j]'(by rw [List.length_map]; exact hj) = k := by rw [List.getElem_map, e2]
  have : i = j := (List.getElem_inj nd).mp (a1.trans a2.symm)
  subst this
  rw [e1] at e2
  exact (congrArg Prod.snd e2).symm
/-- what is told of the keys of f: how far it goes, R -/
structure RInv (nx : κ → List κ) (keys : List κ) (R : Nat → Int → Prop) (f : List (κ × Int)) : Prop where
  nd : (f.map (·.1)).Nodup
  sub : ∀ p ∈ f, p.1 ∈ keys
  val : ∀ p ∈ f, ∀ n : Nat, LP nx n p.1 ↔ R n p.2
theorem RInv.nil {keys : List κ} {R : Nat → Int → Prop} : RInv nx keys R [] := ⟨List.nodup_nil, fun _ h => (nomatch h), fun _ h => (nomatch h)⟩
theorem RInv.add {keys : List κ} {R : Nat → Int → Prop} {f : List (κ × Int)} (h : RInv nx keys R f) {k : κ} {r : Int} (hk : k ∈ keys) (hn : hasK f k = false) (hr : ∀ n : Nat, LP nx n k ↔ R n r) : RInv nx keys R (f ++ [(k, r)]) := by
  refine ⟨?_, fun p hp => ?_, fun p hp => ?_⟩
  · rw [List.map_append]
    refine List.nodup_append.mpr ⟨h.nd, by simp, fun a ha b hb => ?_⟩
    rw [List.map_singleton, List.mem_singleton] at hb
    rw [hb]
    intro e
    have : hasK f k = true := hasK_iff.mpr (by rw [show k = a from e.symm]; exact ha)
    rw [hn] at this
    cases this
  · rcases List.mem_append.mp hp with z | z
    · exact h.sub p z
    · rw [List.mem_singleton.mp z]; exact hk
  · rcases List.mem_append.mp hp with z | z
    · exact h.val p z
    · rw [List.mem_singleton.mp z]; exact hr
theorem RInv.len {keys : List κ} {R : Nat → Int → Prop} {f : List (κ × Int)} (h : RInv nx keys R f) : f.length ≤ keys.length := by
  have := nodup_sub (f.map (·.1)) keys h.nd fun k hk => by
    obtain ⟨p, hp, rfl⟩ := List.mem_map.mp hk
    exact h.sub p hp
  rw [List.length_map] at this
  exact this
theorem RInv.full {keys : List κ} {R : Nat → Int → Prop} {f : List (κ × Int)} (h : RInv nx keys R f) (hl : f.length = keys.length) : ∀ k ∈ keys, hasK f k = true := fun k hk => by
  cases e : hasK f k with
  | true => rfl
  | false =>
    have hk2 : k ∉ f.map (·.1) := fun z => by rw [hasK_iff.mpr z] at e; cases e
    have := nodup_sub (k :: f.map (·.1)) keys (List.nodup_cons.mpr ⟨hk2, h.nd⟩) fun j hj => by
      rcases List.mem_cons.mp hj with z | z
      · rw [z]; exact hk
      · obtain ⟨p, hp, rfl⟩ := List.mem_map.mp z
        exact h.sub p hp
    rw [List.length_cons, List.length_map] at this
    omega
theorem RInv.most {keys : List κ} {R : Nat → Int → Prop} {f : List (κ × Int)} (h : RInv nx keys R f) (nd : keys.Nodup) (hl : f.length ≠ keys.length) : ∃ k ∈ keys, hasK f k = false := by
  apply Classical.byContradiction
  intro hn
  have all : ∀ k ∈ keys, k ∈ f.map (·.1) := fun k hk => by
    cases e : hasK f k with
    | true => exact hasK_iff.mp e
    | false => exact absurd ⟨k, hk, e⟩ hn
  have := nodup_sub keys (f.map (·.1)) nd all
  rw [List.length_map] at this
  have := h.len
  omega
/-- k may be told next -/
def freshK (nx : κ → List κ) (f : List (κ × Int)) (k : κ) : Bool := !hasK f k && (nx k).all (hasK f)
/-- without any that may be told next: what is not told goes on for ever -/
theorem endless {keys : List κ} {f : List (κ × Int)} (cl : ∀ k ∈ keys, ∀ j ∈ nx k, j ∈ keys) (hf : ∀ k ∈ keys, freshK nx f k = false) : ∀ (n : Nat) (k : κ), k ∈ keys → hasK f k = false → LP nx n k
  | 0, _, _, _ => True.intro
  | n + 1, k, hk, he => by
    have h := hf k hk
    unfold freshK at h
    rw [he, Bool.not_false, Bool.true_and] at h
    obtain ⟨j, hj, hn⟩ := List.all_eq_false.mp h
    have hn2 : hasK f j = false := by simpa using hn
    exact ⟨j, hj, endless cl hf n j (cl k hk j hj) hn2⟩
theorem fresh_has {f : List (κ × Int)} {k : κ} (h : freshK nx f k = true) : hasK f k = false ∧ ∀ j ∈ nx k, hasK f j = true := by
  unfold freshK at h
  rw [Bool.and_eq_true] at h
  exact ⟨by simpa using h.1, List.all_eq_true.mp h.2⟩
/-! ### ranks -/
def rkP (nx : κ → List κ) (f : List (κ × Int)) (k : κ) : Int := 1 + maxD 0 ((nx k).map (lookI f))
theorem rkP_ok {keys : List κ} {f : List (κ × Int)} (h : RInv nx keys (fun n r => (n : Int) < r) f) {k : κ} (hk : ∀ j ∈ nx k, hasK f j = true) (n : Nat) : LP nx n k ↔ (n : Int) < rkP nx f k := by
  have val : ∀ j ∈ nx k, ∀ m : Nat, LP nx m j ↔ (m : Int) < lookI f j := fun j hj m => h.val _ (lookI_mem (hk j hj)) m
  have pos : ∀ j ∈ nx k, 0 < lookI f j := fun j hj => (val j hj 0).mp True.intro
  unfold rkP
  cases n with
  | zero =>
    refine ⟨fun _ => ?_, fun _ => True.intro⟩
    by_cases e : nx k = []
    · rw [e]
      show (0 : Int) < 1 + 0
      omega
    · have := maxD_mem (j := 0) (l := (nx k).map (lookI f)) (by simpa using e)
      obtain ⟨j, hj, e2⟩ := List.mem_map.mp this
      have := pos j hj
      omega
  | succ n =>
    constructor
    · rintro ⟨j, hj, hl⟩
      have h1 := (val j hj n).mp hl
      have h2 := maxD_ge (j := 0) (List.mem_map.mpr ⟨j, hj, rfl⟩ : lookI f j ∈ (nx k).map (lookI f))
      omega
    · intro hl
      by_cases e : nx k = []
      · rw [e] at hl
        exact absurd hl (by show ¬ ((n + 1 : Nat) : Int) < 1 + 0; omega)
      · have := maxD_mem (j := 0) (l := (nx k).map (lookI f)) (by simpa using e)
        obtain ⟨j, hj, e2⟩ := List.mem_map.mp this
        exact ⟨j, hj, (val j hj n).mpr (by omega)⟩
def addP (nx : κ → List κ) (f : List (κ × Int)) (ks : List κ) : List (κ × Int) := ks.foldl (fun f k => f ++ [(k, rkP nx f k)]) f
theorem hasK_app {f g : List (κ × Int)} {k : κ} : hasK (f ++ g) k = (hasK f k || hasK g k) := List.any_append
theorem addP_ok {keys : List κ} : ∀ (ks : List κ) {f : List (κ × Int)}, RInv nx keys (fun n r => (n : Int) < r) f → ks.Nodup → (∀ k ∈ ks, k ∈ keys ∧ hasK f k = false ∧ ∀ j ∈ nx k, hasK f j = true) → RInv nx keys (fun n r => (n : Int) < r) (addP nx f ks) ∧ (addP nx f ks).length = f.length + ks.length
  | [], f, h, _, _ => ⟨h, rfl⟩
  | k :: ks, f, h, hn, hk => by
    obtain ⟨k1, k2, k3⟩ := hk k List.mem_cons_self
    have hn2 := List.nodup_cons.mp hn
    obtain ⟨g1, g2⟩ := addP_ok ks (h.add k1 k2 (rkP_ok h k3)) hn2.2 fun j hj => by
      obtain ⟨j1, j2, j3⟩ := hk j (List.mem_cons_of_mem _ hj)
      refine ⟨j1, ?_, fun i hi => by rw [hasK_app, j3 i hi, Bool.true_or]⟩
      rw [hasK_app, j2, Bool.false_or]
      show (decide (k = j) || false) = false
      have ne : ¬ k = j := fun e => hn2.1 (by rw [e]; exact hj)
      rw [Bool.or_false, decide_eq_false ne]
    refine ⟨g1, ?_⟩
    have g2 : (addP nx f (k :: ks)).length = (f ++ [(k, rkP nx f k)]).length + ks.length := g2
    rw [g2, List.length_append]
    show f.length + 1 + ks.length = f.length + (ks.length + 1)
    omega
def rankStep (nx : κ → List κ) (keys : List κ) (f : List (κ × Int)) : List (κ × Int) := addP nx f (keys.filter (freshK nx f))
def rankFin (nx : κ → List κ) (keys : List κ) (f : List (κ × Int)) : Option (Option (List (κ × Int))) := if (keys.filter (freshK nx f)).isEmpty = true then some (if f.length = keys.length then some f else none) else none
def ranksS (nx : κ → List κ) (keys : List κ) : Option (List (κ × Int)) := iterR (rankStep nx keys) (rankFin nx keys) none (keys.length + 1) []
theorem rankStep_ok {keys : List κ} (nd : keys.Nodup) {f : List (κ × Int)} (h : RInv nx keys (fun n r => (n : Int) < r) f) (he : (keys.filter (freshK nx f)).isEmpty = false) : RInv nx keys (fun n r => (n : Int) < r) (rankStep nx keys f) ∧ keys.length - (rankStep nx keys f).length < keys.length - f.length := by
  obtain ⟨g1, g2⟩ := addP_ok (keys.filter (freshK nx f)) h (nd.filter _) fun k hk => by
    obtain ⟨k1, k2⟩ := List.mem_filter.mp hk
    exact ⟨k1, fresh_has k2⟩
  refine ⟨g1, ?_⟩
  have h1 := g1.len
  have h2 : 0 < (keys.filter (freshK nx f)).length := by
    cases e : keys.filter (freshK nx f) with
    | nil => rw [e] at he; cases he
    | cons _ _ => rw [List.length_cons]; omega
  have g2 : (rankStep nx keys f).length = f.length + (keys.filter (freshK nx f)).length := g2
  have h1 : (rankStep nx keys f).length ≤ keys.length := h1
  omega
theorem ranksS_ok {keys : List κ} (nd : keys.Nodup) (cl : ∀ k ∈ keys, ∀ j ∈ nx k, j ∈ keys) :
    (ranksS nx keys = none → ∃ k ∈ keys, ∀ n, LP nx n k) ∧ ∀ f, ranksS nx keys = some f → RInv nx keys (fun n r => (n : Int) < r) f ∧ f.length = keys.length := by
  have := iterR_P (step := rankStep nx keys) (fin := rankFin nx keys) (z := none) (P := RInv nx keys (fun n r => (n : Int) < r)) (meas := fun f => keys.length - f.length)
    (R := fun r => (r = none → ∃ k ∈ keys, ∀ n, LP nx n k) ∧ ∀ f, r = some f → RInv nx keys (fun n r => (n : Int) < r) f ∧ f.length = keys.length) (fun f hf he => ?_) (fun f r hf he => ?_) (keys.length + 1) [] (by show keys.length - 0 < keys.length + 1; omega) .nil
  · exact this
  · refine rankStep_ok nd hf ?_
    unfold rankFin at he
    cases e : (keys.filter (freshK nx f)).isEmpty with
    | false => rfl
    | true => rw [e, if_pos rfl] at he; cases he
  · unfold rankFin at he
    cases e : (keys.filter (freshK nx f)).isEmpty with
    | false => rw [e, if_neg (by decide)] at he; cases he
    | true =>
      rw [e, if_pos rfl] at he
      have hno : ∀ k ∈ keys, freshK nx f k = false := fun k hk => by
        cases q : freshK nx f k with
        | false => rfl
        | true =>
          have := List.mem_filter.mpr ⟨hk, q⟩
          rw [List.isEmpty_iff.mp e] at this
          cases this
      cases he
      by_cases hl : f.length = keys.length
      · rw [if_pos hl]
        exact ⟨fun h => (nomatch h), fun g hg => by cases hg; exact ⟨hf, hl⟩⟩
      · rw [if_neg hl]
        obtain ⟨k, hk, hh⟩ := hf.most nd hl
        exact ⟨fun _ => ⟨k, hk, fun n => endless cl hno n k hk hh⟩, fun g hg => by cases hg⟩
/-- so many frames can stay open -/
def openN (nx : κ → List κ) (st : List κ) (n : Nat) : Prop := n = 0 ∨ ∃ k ∈ st, LP nx (n - 1) k
def outP (nx : κ → List κ) (keys : List κ) : Option Int := (ranksS nx keys).map fun f => maxD 0 (f.map (·.2))
theorem outP_ok {st keys : List κ} (nd : keys.Nodup) (hk : ∀ k, k ∈ keys ↔ Reach nx st k) : (outP nx keys = none → ∀ n, openN nx st n) ∧ ∀ L, outP nx keys = some L → 0 ≤ L ∧ ∀ n : Nat, openN nx st n ↔ (n : Int) ≤ L := by
  obtain ⟨h1, h2⟩ := ranksS_ok (nx := nx) nd fun k h j hj => (hk j).mpr (.step ((hk k).mp h) hj)
  unfold outP
  cases e : ranksS nx keys with
  | none =>
    refine ⟨fun _ n => ?_, fun L h => (nomatch h)⟩
    obtain ⟨k, k1, k2⟩ := h1 e
    exact .inr (((hk k).mp k1).lp _ (k2 _))
  | some f =>
    refine ⟨fun h => (nomatch h), fun L h => ?_⟩
    have h : some (maxD 0 (f.map (·.2))) = some L := h
    cases h
    obtain ⟨g1, g2⟩ := h2 f e
    have nn : 0 ≤ maxD 0 (f.map (·.2)) := by
      cases hf : f with
      | nil => exact Int.le_refl _
      | cons p r =>
        have := (g1.val p (by rw [hf]; exact List.mem_cons_self) 0).mp True.intro
        have h3 := maxD_ge (j := 0) (l := (p :: r).map (·.2)) (y := p.2) (by rw [List.map_cons]; exact List.mem_cons_self)
        have : (0 : Int) < p.2 := this
        omega
    refine ⟨nn, fun n => ?_⟩
    constructor
    · rintro (rfl | ⟨k, k1, k2⟩)
      · exact nn
      · by_cases hn : n = 0
        · subst hn; exact nn
        have hh := g1.full g2 k ((hk k).mpr (.start k1))
        have h3 := (g1.val _ (lookI_mem hh) (n - 1)).mp k2
        have h4 := maxD_ge (j := 0) (l := f.map (·.2)) (y := lookI f k) (List.mem_map.mpr ⟨_, lookI_mem hh, rfl⟩)
        have h3 : ((n - 1 : Nat) : Int) < lookI f k := h3
        omega
    · intro hn
      by_cases h0 : n = 0
      · exact .inl h0
      · have hne : f.map (·.2) ≠ [] := fun z => by rw [z] at hn; have : maxD 0 [] = 0 := rfl; omega
        obtain ⟨p, hp, ep⟩ := List.mem_map.mp (maxD_mem (j := 0) hne)
        have := (g1.val p hp (n - 1)).mpr (by show ((n - 1 : Nat) : Int) < p.2; omega)
        exact .inr (((hk _).mp (g1.sub p hp)).lp _ this)
/-! ### the longest ways, by sweeps -/
def rkL (nx : κ → List κ) (f : List (κ × Int)) (k : κ) : Int := maxD 0 (0 :: (nx k).map fun j => 1 + lookI f j)
theorem rkL_ok {keys : List κ} {f : List (κ × Int)} (h : RInv nx keys (fun n r => (n : Int) ≤ r) f) {k : κ} (hk : ∀ j ∈ nx k, hasK f j = true) (n : Nat) : LP nx n k ↔ (n : Int) ≤ rkL nx f k := by
  have val : ∀ j ∈ nx k, ∀ m : Nat, LP nx m j ↔ (m : Int) ≤ lookI f j := fun j hj m => h.val _ (lookI_mem (hk j hj)) m
  have h0 : 0 ≤ rkL nx f k := maxD_ge (j := 0) List.mem_cons_self
  cases n with
  | zero => exact ⟨fun _ => h0, fun _ => True.intro⟩
  | succ n =>
    constructor
    · rintro ⟨j, hj, hl⟩
      have h1 := (val j hj n).mp hl
      have h2 : 1 + lookI f j ≤ rkL nx f k := maxD_ge (j := 0) (List.mem_cons_of_mem _ (List.mem_map.mpr ⟨j, hj, rfl⟩))
      omega
    · intro hl
      have := maxD_mem (j := 0) (l := 0 :: (nx k).map fun j => 1 + lookI f j) (by simp)
      rcases List.mem_cons.mp this with e | e
      · have e : rkL nx f k = 0 := e
        omega
      · obtain ⟨j, hj, e2⟩ := List.mem_map.mp e
        have e2 : 1 + lookI f j = rkL nx f k := e2
        exact ⟨j, hj, (val j hj n).mpr (by omega)⟩
def one1 (nx : κ → List κ) (f : List (κ × Int)) (k : κ) : List (κ × Int) := if freshK nx f k = true then f ++ [(k, rkL nx f k)] else f
def sweep (nx : κ → List κ) (keys : List κ) (f : List (κ × Int)) : List (κ × Int) := keys.foldl (one1 nx) f
theorem one1_ok {keys : List κ} {f : List (κ × Int)} (h : RInv nx keys (fun n r => (n : Int) ≤ r) f) {k : κ} (hk : k ∈ keys) : RInv nx keys (fun n r => (n : Int) ≤ r) (one1 nx f k) := by
  unfold one1
  split
  · rename_i hf
    obtain ⟨h1, h2⟩ := fresh_has hf
    exact h.add hk h1 (rkL_ok h h2)
  · exact h
theorem one1_has {f : List (κ × Int)} {k j : κ} (h : hasK f j = true) : hasK (one1 nx f k) j = true := by
  unfold one1
  split
  · rw [hasK_app, h, Bool.true_or]
  · exact h
theorem one1_len {f : List (κ × Int)} {k : κ} : f.length ≤ (one1 nx f k).length := by
  unfold one1
  split
  · rw [List.length_append]; omega
  · exact Nat.le_refl _
theorem sweep_ok {keys : List κ} : ∀ (ks : List κ) {f : List (κ × Int)}, RInv nx keys (fun n r => (n : Int) ≤ r) f → (∀ k ∈ ks, k ∈ keys) → RInv nx keys (fun n r => (n : Int) ≤ r) (sweep nx ks f) ∧ f.length ≤ (sweep nx ks f).length ∧ ∀ k ∈ ks, freshK nx f k = true → f.length < (sweep nx ks f).length
  | [], f, h, _ => ⟨h, Nat.le_refl _, fun _ h => (nomatch h)⟩
  | k :: ks, f, h, hk => by
    have hk1 := hk k List.mem_cons_self
    obtain ⟨g1, g2, g3⟩ := sweep_ok ks (one1_ok h hk1) fun j hj => hk j (List.mem_cons_of_mem _ hj)
    have l1 := one1_len (nx := nx) (f := f) (k := k)
    refine ⟨g1, Nat.le_trans l1 g2, fun j hj hf => ?_⟩
    rcases List.mem_cons.mp hj with e | e
    · have e2 : one1 nx f k = f ++ [(k, rkL nx f k)] := by
        unfold one1
        rw [if_pos (e ▸ hf)]
      have l2 : (one1 nx f k).length = f.length + 1 := by rw [e2, List.length_append] <;> rfl
      have g2 : (one1 nx f k).length ≤ (sweep nx (k :: ks) f).length := g2
      omega
    · obtain ⟨f1, f2⟩ := fresh_has hf
      by_cases hz : freshK nx (one1 nx f k) j = true
      · have := g3 j e hz
        have this : (one1 nx f k).length < (sweep nx (k :: ks) f).length := this
        omega
      · -- j is told by now
        have hj2 : hasK (one1 nx f k) j = true := by
          cases q : hasK (one1 nx f k) j with
          | true => rfl
          | false =>
            apply absurd _ hz
            unfold freshK
            rw [q, Bool.not_false, Bool.true_and, List.all_eq_true]
            exact fun i hi => one1_has (f2 i hi)
        have l2 : f.length < (one1 nx f k).length := by
          unfold one1 at hj2 ⊢
          split
          · rw [List.length_append]
            show _ < _ + 1
            omega
          · rename_i hc
            rw [if_neg hc, f1] at hj2
            cases hj2
        have g2 : (one1 nx f k).length ≤ (sweep nx (k :: ks) f).length := g2
        omega
def sweeps (nx : κ → List κ) (keys : List κ) : Nat → List (κ × Int)
  | 0 => []
  | n + 1 => sweep nx keys (sweeps nx keys n)
theorem sweeps_ok {keys : List κ} : ∀ n, RInv nx keys (fun n r => (n : Int) ≤ r) (sweeps nx keys n) ∧ ((∀ k ∈ keys, freshK nx (sweeps nx keys n) k = false) ∨ n ≤ (sweeps nx keys n).length)
  | 0 => ⟨.nil, .inr (Nat.le_refl _)⟩
  | n + 1 => by
    obtain ⟨h1, h2⟩ := sweeps_ok n
    obtain ⟨g1, g2, g3⟩ := sweep_ok keys h1 fun _ h => h
    refine ⟨g1, ?_⟩
    by_cases hf : ∃ k ∈ keys, freshK nx (sweeps nx keys n) k = true
    · obtain ⟨k, hk, hf⟩ := hf
      have l := g3 k hk hf
      rcases h2 with h2 | h2
      · rw [h2 k hk] at hf; cases hf
      · exact .inr (by show n + 1 ≤ (sweep nx keys (sweeps nx keys n)).length; omega)
    · have no : ∀ k ∈ keys, freshK nx (sweeps nx keys n) k = false := fun k hk => by
        cases q : freshK nx (sweeps nx keys n) k with
        | false => rfl
        | true => exact absurd ⟨k, hk, q⟩ hf
      have same : ∀ ks : List κ, (∀ k ∈ ks, k ∈ keys) → sweep nx ks (sweeps nx keys n) = sweeps nx keys n := by
        intro ks
        induction ks with
        | nil => intro _; rfl
        | cons k ks ih =>
          intro hk
          have e : one1 nx (sweeps nx keys n) k = sweeps nx keys n := by
            unfold one1
            rw [no k (hk k List.mem_cons_self), if_neg (by decide)]
          show sweep nx ks (one1 nx (sweeps nx keys n) k) = _
          rw [e]
          exact ih fun j hj => hk j (List.mem_cons_of_mem _ hj)
      left
      show ∀ k ∈ keys, freshK nx (sweep nx keys (sweeps nx keys n)) k = false
      rw [same keys fun _ h => h]
      exact no
def outL (nx : κ → List κ) (keys : List κ) (start : κ) : Option Int := if (sweeps nx keys keys.length).length = keys.length then some (lookI (sweeps nx keys keys.length) start) else none
theorem outL_ok {start : κ} {keys : List κ} (nd : keys.Nodup) (hk : ∀ k, k ∈ keys ↔ Reach nx [start] k) : (outL nx keys start = none → ∀ n, LP nx n start) ∧ ∀ L, outL nx keys start = some L → 0 ≤ L ∧ ∀ n : Nat, LP nx n start ↔ (n : Int) ≤ L := by
  obtain ⟨h1, h2⟩ := sweeps_ok (nx := nx) (keys := keys) keys.length
  unfold outL
  by_cases hl : (sweeps nx keys keys.length).length = keys.length
  · rw [if_pos hl]
    refine ⟨fun h => (nomatch h), fun L h => ?_⟩
    cases h
    have hh := h1.full hl start ((hk start).mpr (.start (List.mem_singleton.mpr rfl)))
    have v := h1.val _ (lookI_mem hh)
    exact ⟨(v 0).mp True.intro, v⟩
  · rw [if_neg hl]
    refine ⟨fun _ n => ?_, fun L h => (nomatch h)⟩
    have hno : ∀ k ∈ keys, freshK nx (sweeps nx keys keys.length) k = false := by
      rcases h2 with h2 | h2
      · exact h2
      · have := h1.len
        omega
    obtain ⟨k, k1, k2⟩ := h1.most nd hl
    have := endless (fun k h j hj => (hk j).mpr (.step ((hk k).mp h) hj)) hno n k k1 k2
    obtain ⟨s, hs, h3⟩ := ((hk k).mp k1).lp n this
    rw [List.mem_singleton.mp hs] at h3
    exact h3
end
/-- two ways to tell it tell the same -/
theorem out_eq {a b : Option Int} {Q : Nat → Prop} (a1 : a = none → ∀ n, Q n) (a2 : ∀ L, a = some L → 0 ≤ L ∧ ∀ n : Nat, Q n ↔ (n : Int) ≤ L) (b1 : b = none → ∀ n, Q n) (b2 : ∀ L, b = some L → 0 ≤ L ∧ ∀ n : Nat, Q n ↔ (n : Int) ≤ L) : a = b := by
  cases ha : a with
  | none =>
    cases hb : b with
    | none => rfl
    | some L =>
      obtain ⟨p, q⟩ := b2 L hb
      have := (q (L.toNat + 1)).mp (a1 ha _)
      omega
  | some K =>
    obtain ⟨p, q⟩ := a2 K ha
    cases hb : b with
    | none =>
      have := (q (K.toNat + 1)).mp (b1 hb _)
      omega
    | some L =>
      obtain ⟨p2, q2⟩ := b2 L hb
      have h1 := (q2 K.toNat).mp ((q K.toNat).mpr (by omega))
      have h2 := (q L.toNat).mp ((q2 L.toNat).mpr (by omega))
      congr 1
      omega
end Dl

set_option Elab.async false
set_option linter.all false
set_option maxRecDepth 100000
set_option maxHeartbeats 4000000
/-! DlTup: zip of a list and a tuple; sorted of a tuple; sorted(set(..)) of a tuple. -/
namespace Dl
open PySem PySem.Spec PyProof.Rows L2
def ItzLT (K : PySem.W.Frag) (a b : Addr) : It :=
  ⟨fun i H => ∃ (xs ys : List V) (x y : V), SqL K H a xs ∧ SqT K H b ys ∧ xs[i]? = some x ∧ ys[i]? = some y,
    fun i H v H' => ∃ T x y, v = .ref T ∧ H T = none ∧ H' = upd H T (.tup [x, y]) ∧ (∀ xs, SqL K H a xs → xs[i]? = some x) ∧ ∀ ys, SqT K H b ys → ys[i]? = some y,
    fun i H => ∃ xs ys : List V, SqL K H a xs ∧ SqT K H b ys ∧ i ≤ xs.length ∧ i ≤ ys.length ∧ (i = xs.length ∨ i = ys.length)⟩
theorem turn_zipLT {P : Program} {w : World} {K : PySem.W.Frag} {elts : List Expr} {kk : Nat} {tpos : Pos} {a b z TI TO i1 i2 : Addr} (D : ZipSep2 z TI TO i1 i2 [i1, a] [i2, b]) (ha : a ≠ i1) (hb : b ≠ i2) :
    Turn P w K (.Tuple elts kk tpos) (ItzLT K a b) [z, TI, TO, i1, i2] z (fun i h => IsZip h z TI TO .none ∧ IsTupOf2 h TI (.ref i1) (.ref i2) ∧ (∃ x y, IsTupOf2 h TO x y) ∧ h.IsListIter i1 a i ∧ h.IsTupleIter i2 b i) where
  mem := by simp
  obj := fun i h st c hc => by
    obtain ⟨hz, hTI, ⟨x, y, hTO⟩, ⟨o1, e1, _, d1⟩, ⟨o2, e2, _, d2⟩⟩ := st
    have e' : c = z ∨ c = TI ∨ c = TO ∨ c = i1 ∨ c = i2 := by simpa using hc
    rcases e' with q | q | q | q | q
    · rw [q]; exact ⟨_, hz, fun v q => nomatch q⟩
    · rw [q]; exact ⟨_, hTI, fun v q => nomatch q⟩
    · rw [q]; exact ⟨_, hTO, fun v q => nomatch q⟩
    · rw [q]; exact ⟨o1, e1, fun v q => by rw [d1] at q; cases q⟩
    · rw [q]; exact ⟨o2, e2, fun v q => by rw [d2] at q; cases q⟩
  keep := fun i h h' st k => by
    obtain ⟨hz, hTI, ⟨x, y, hTO⟩, h1, h2⟩ := st
    exact ⟨k z (by simp) _ hz, k TI (by simp) _ hTI, ⟨x, y, k TO (by simp) _ hTO⟩, h1.at fun o q => k i1 (by simp) o q, h2.at fun o q => k i2 (by simp) o q⟩
  item := by
    intro X hP hw hK hc i pins s σ H E I hf st hg
    subst hP hw hK
    obtain ⟨hz, hTI, ⟨x0, y0, hTO⟩, h1, h2⟩ := st
    obtain ⟨xs, ys, x, y, hqx, hqy, hx, hy⟩ := hg
    obtain ⟨its, rv, p, _⟩ := I.list hqx
    obtain ⟨its2, rv2, p2, _⟩ := I.tuple hqy
    obtain ⟨u, hu, ru⟩ := rv.get hx
    obtain ⟨u2, hu2, ru2⟩ := rv2.get hy
    have hzl : z < s.heap.objs.size := Heap.lt_size hz
    have l1 : i < its.toArray.size := by rw [List.size_toArray]; exact (List.getElem?_eq_some_iff.mp hu).1
    have l2 : i < its2.toArray.size := by rw [List.size_toArray]; exact (List.getElem?_eq_some_iff.mp hu2).1
    have i1z : i1 ≠ z := fun q => D.zf1 (q ▸ D.mem1)
    have i2z : i2 ≠ z := fun q => D.zf2 (q ▸ D.mem2)
    refine wpAny_pyNext_zipD2_item D (Draws.list (A := X.A.in1) (I.ok.hd hc) i1 a ha its.toArray) (Draws.tuple (A := X.A.in1) (I.ok.hd hc) i2 b hb its2.toArray) hz hTI hTO ⟨h1, p.isList⟩ ⟨h2, (show s.heap.IsTuple b its2.toArray from p2)⟩ l1 l2 fun x1 x2 h' tk y1 y2 z' TO' s1 s2 hT hsz hk => ?_
    have eu : x1 = u := by
      have q : its[i]? = some x1 := by simpa using y1
      rw [hu] at q
      exact (Option.some.inj q).symm
    subst eu
    have eu2 : x2 = u2 := by
      have q : its2[i]? = some x2 := by simpa using y2
      rw [hu2] at q
      exact (Option.some.inj q).symm
    subst eu2
    refine ⟨_, rfl, wpAny_letOwnedTupleGo_zip (s := { s with heap := h', toks := tk }) z' fun h'' z'' sb => ?_⟩
    have hT2 : h''.get? s.heap.objs.size = some { cls := .type "tuple", data := .seq #[x1, x2] } := (sb.2 _ (Nat.ne_of_gt hzl)).trans hT
    have new : ObjOk X.prog X.w (upd H s.heap.objs.size (.tup [x, y])) h'' s.heap.objs.size (.tup [x, y]) :=
      ⟨by show 2 ≤ sizeLine; decide, [x1, x2], .cons ru (.cons ru2 .nil), ⟨_, hT2, rfl, _, rfl⟩⟩
    have I1 : Inv X pins σ (upd H s.heap.objs.size (.tup [x, y])) { s with heap := h'', toks := tk } :=
      I.turnedNew (ch := [z, TI, TO, i1, i2]) (fun c o hb q => (sb.2 c (fun q' => hb (by simp [q']))).trans (hk c o (fun q' => hb (by simp [q'])) (fun q' => hb (by simp [q'])) (fun q' => hb (by simp [q'])) (fun q' => hb (by simp [q'])) q)) hf (Nat.le_refl _) new
    refine ⟨.ref s.heap.objs.size, _, I1, rfl, ⟨_, x, y, rfl, I.hok.fresh (Nat.le_refl _), rfl, fun l hl => by rw [I.list_inj hl hqx]; exact hx, fun l hl => by rw [I.tuple_inj hl hqy]; exact hy⟩, ⟨z'', ?_, ⟨x1, x2, ?_⟩, ?_, ?_⟩, fun c hcm => ?_⟩
    · exact (sb.2 _ D.TIz).trans (hk _ _ D.TIz D.TITO D.TIi1 D.TIi2 hTI)
    · exact (sb.2 _ D.TOz).trans TO'
    · exact s1.1.at fun o q => (sb.2 _ i1z).trans q
    · exact s2.1.at fun o q => (sb.2 _ i2z).trans q
    · have hlt : c < s.heap.objs.size := by
        have e' : c = z ∨ c = TI ∨ c = TO ∨ c = i1 ∨ c = i2 := by simpa using hcm
        rcases e' with q | q | q | q | q
        · rw [q]; exact hzl
        · rw [q]; exact Heap.lt_size hTI
        · rw [q]; exact Heap.lt_size hTO
        · rw [q]; obtain ⟨_, e1, _⟩ := h1; exact Heap.lt_size e1
        · rw [q]; obtain ⟨_, e2, _⟩ := h2; exact Heap.lt_size e2
      rw [upd_ne (Nat.ne_of_lt hlt)]
      exact (hf c hcm).1
  done := by
    intro X hP hw hK hc i pins s σ H E I hf st hg
    subst hP hw hK
    obtain ⟨hz, hTI, ⟨x0, y0, hTO⟩, h1, h2⟩ := st
    obtain ⟨xs, ys, hqx, hqy, e1, e2, e3⟩ := hg
    obtain ⟨its, rv, p, _⟩ := I.list hqx
    obtain ⟨its2, rv2, p2, _⟩ := I.tuple hqy
    have l1 := rv.length
    have l2 := rv2.length
    refine wpAny_pyNext_zipD2_end D (Draws.list (A := X.A.in1) (I.ok.hd hc) i1 a ha its.toArray) (Draws.tuple (A := X.A.in1) (I.ok.hd hc) i2 b hb its2.toArray) hz hTI hTO ⟨h1, p.isList⟩ ⟨h2, (show s.heap.IsTuple b its2.toArray from p2)⟩ (by rw [List.size_toArray]; omega) (by rw [List.size_toArray]; omega) (by rw [List.size_toArray, List.size_toArray]; omega)
      fun h' tk hk => ⟨rfl, I.turnedL (ch := [z, TI, TO, i1, i2]) (fun c o hb q =>
        hk c o (fun q' => hb (by simp [q'])) (fun q' => hb (by simp [q'])) (fun q' => hb (by simp [q'])) (fun q' => hb (by simp [q'])) q) hf⟩
  self := fun A i s Q E st h => wpAny_pyIter_zip st.1 h
theorem sep_new (I l1 l2 : Nat) (h1 : l1 < I) (h2 : l2 < I) : ZipSep2 (I + 4) (I + 2) (I + 3) I (I + 1) [I, l1] [I + 1, l2] := by
  have n : ∀ {x a b : Nat}, x ≠ a → x ≠ b → x ∉ [a, b] := fun h1 h2 h => by
    rcases List.mem_cons.mp h with z | z
    · exact h1 z
    · exact h2 (List.mem_singleton.mp z)
  exact ⟨(by omega : (I + 2 : Nat) ≠ I + 4), (by omega : (I + 3 : Nat) ≠ I + 4), (by omega : (I + 2 : Nat) ≠ I + 3), (by omega : (I + 2 : Nat) ≠ I), List.mem_cons_self, n (by omega) (by omega), n (by omega) (by omega), (by omega : (I + 2 : Nat) ≠ I + 1), List.mem_cons_self, n (by omega) (by omega), n (by omega) (by omega), n (by omega) (by omega), n (by omega) (by omega)⟩
def iZipLT (K : PySem.W.Frag) (ta : TA) : TI := fun σ H R => ta σ H fun vs H1 => ∃ a b xs ys, vs = [.ref a, .ref b] ∧ SqL K H1 a xs ∧ SqT K H1 b ys ∧ R (ItzLT K a b) H1
theorem pi_zipLT {X : Cx} {e e2 : Expr} {ta : TA} {p pos tpos : Pos} {elts : List Expr} {kk : Nat} (hg : Gl X "zip") (hm : X.mg "zip" = none) (ha : PA X [e, e2] ta)
    (hs : starEach [e, e2] X.env = (false, eval e X.env) :: starEach [e2] X.env := by rfl) (hpl : (backTo pos (starEach [e2] X.env)).any (·.1) = false := by rfl) :
    PI X (.Tuple elts kk tpos) (.Call (.Name "zip" p) [e, e2] [] pos) (iZipLT X.K ta) := by
  refine ⟨fun pins s σ H R I h => ?_⟩
  refine Call_ (ld_blt I hg hm PyProof.Rows.boot_zip (PyProof.Rows.callWith_type1 (thn (ha.run pos pins s σ H _ I h) fun us s1 ⟨vs, H1, I1, r1, q1⟩ => ?_) hs hpl))
  obtain ⟨a, b, xs, ys, ex, hqx, hqy, q⟩ := q1
  subst ex
  cases r1 with
  | cons r rr =>
    cases rr with
    | cons r' rr =>
      cases rr
      cases r
      cases r'
      obtain ⟨its, rv, p1, _⟩ := I1.list hqx
      obtain ⟨its2, rv2, p2, _⟩ := I1.tuple hqy
      obtain ⟨o2, ho2, _⟩ := id p2
      have la : a < s1.heap.objs.size := p1.lt
      have lb : b < s1.heap.objs.size := Heap.lt_size ho2
      refine zip_begins2 (begins_list a its.toArray) (begins_tuple b its2.toArray) p1.isList (show s1.heap.IsTuple b its2.toArray from p2) fun h' hz hTI hTO h1 h2 hsz hk => wpAny_pyIter_zip hz ?_
      have I2 : Inv X pins σ H1 { s1 with heap := h' } := I1.kept (t' := s1.toks) hk
      refine ⟨s1.heap.objs.size + 4, [s1.heap.objs.size + 4, s1.heap.objs.size + 2, s1.heap.objs.size + 3, s1.heap.objs.size, s1.heap.objs.size + 1], _, _, H1, rfl, I2, turn_zipLT (sep_new s1.heap.objs.size a b la lb) (Nat.ne_of_lt la) (Nat.ne_of_lt (Nat.lt_succ_of_lt lb)), ⟨hz, hTI, ⟨_, _, hTO⟩, ⟨_, h1, rfl, rfl⟩, ⟨_, h2, rfl, rfl⟩⟩, fun c hcm => ?_, q⟩
      have e' : c = s1.heap.objs.size + 4 ∨ c = s1.heap.objs.size + 2 ∨ c = s1.heap.objs.size + 3 ∨ c = s1.heap.objs.size ∨ c = s1.heap.objs.size + 1 := by simpa using hcm
      have hle : s1.heap.objs.size ≤ c := by
        rcases e' with z | z | z | z | z
        · rw [z]; exact Nat.le_add_right _ _
        · rw [z]; exact Nat.le_add_right _ _
        · rw [z]; exact Nat.le_add_right _ _
        · rw [z]; exact Nat.le_refl _
        · rw [z]; exact Nat.le_add_right _ _
      exact I1.fpOk hle (I1.hok.fresh hle)
theorem zpD_len : ∀ (as_ bs : List Dt), (zpD as_ bs).length ≤ as_.length ∧ (zpD as_ bs).length ≤ bs.length ∧ ((zpD as_ bs).length = as_.length ∨ (zpD as_ bs).length = bs.length)
  | [], bs => ⟨Nat.le_refl _, Nat.zero_le _, .inl rfl⟩
  | _ :: _, [] => ⟨Nat.zero_le _, Nat.le_refl _, .inr rfl⟩
  | a :: as_, b :: bs => by
    obtain ⟨h1, h2, h3⟩ := zpD_len as_ bs
    show (zpD as_ bs).length + 1 ≤ as_.length + 1 ∧ (zpD as_ bs).length + 1 ≤ bs.length + 1 ∧ ((zpD as_ bs).length + 1 = as_.length + 1 ∨ (zpD as_ bs).length + 1 = bs.length + 1)
    omega
section
variable {K : PySem.W.Frag} {F : Hp} {fi : List Addr} {vs ws : List V} {ds es : List Dt} {a b : Addr}
theorem Feeds.zpLT (h : F a = some (.lst vs)) (r : RpL K F fi vs ds) (h' : F b = some (.tup ws)) (r' : RpL K F fi ws es) : Feeds K (ItzLT K a b) F fi (zpD ds es) where
  go := fun i d H s hi => by
    obtain ⟨c, c', h1, h1', rfl⟩ := zpD_get hi
    obtain ⟨v, h2, h3⟩ := r.getD h1
    obtain ⟨v', h2', h3'⟩ := r'.getD h1'
    refine ⟨⟨vs, ws, v, v', SqL.of (s _ _ h), SqT.of (s _ _ h'), h2, h2'⟩, fun x H' ⟨T, y, y', e1, e2, e3, e4, e5⟩ => ?_⟩
    have e := e4 vs (SqL.of (s _ _ h))
    rw [h2] at e
    cases e
    have e' := e5 ws (SqT.of (s _ _ h'))
    rw [h2'] at e'
    cases e'
    exact .inr ⟨T, _, _, e1, e2, e3, .cons h3 (.cons h3' .nil), rfl⟩
  stop := fun H s => ⟨vs, ws, SqL.of (s _ _ h), SqT.of (s _ _ h'), by rw [r.length, r'.length]; exact zpD_len ds es⟩
end
section
variable {T : Tbs} {X : Cx} {G : List Cell} {mu mu1 mu2 : List Dt} {r r1 r2 : Res} {e e2 : Expr} {pos p tpos : Pos} {elts : List Expr} {kk : Nat} {ds es : List Dt}
theorem ei_zipLT (h : EvD T X G mu e (.dat (.lst ds)) mu1) (h2 : EvD T X G mu1 e2 (.dat (.tup es)) mu2) (hm : X.mg "zip" = none) (hg : Gl X "zip" := by rfl) (hs : starEach [e, e2] X.env = (false, eval e X.env) :: starEach [e2] X.env := by rfl)
    (hs2 : starEach [e2] X.env = (false, eval e2 X.env) :: starEach [] X.env := by rfl) (hpl : (backTo pos (starEach [e2] X.env)).any (·.1) = false := by rfl) : EvI T X G mu (.Tuple elts kk tpos) (.Call (.Name "zip" p) [e, e2] [] pos) (zpD ds es) mu2 := by
  refine pi_imp (pi_zipLT hg hm (ea_cons h (ea_cons h2 ea_nil hs2) hs) hs hpl) fun sg H R ⟨B, F, fi, e, q⟩ => ⟨B, F, fi, e, fun vs F1 fi1 H1 s1 p1 e1 m1 => ?_⟩
  cases m1 with
  | cons m1 m2 =>
    cases m2 with
    | cons m2 m3 =>
      cases m3
      cases m1 with
      | lst g m => cases m2 with
        | tup g' m' => exact ⟨_, _, _, _, rfl, SqL.of (e1.sub _ _ g), SqT.of (e1.sub _ _ g'), q F1 fi1 H1 _ s1 p1 e1 (.zpLT g m g' m')⟩
end
/-! ### sorted(t) -/
section
variable {prog : Program} {w : World} {A : Around} {E : Value → Shared → Prop} {s : Shared}
theorem collect_tupT {l : Addr} {vs : List Value} {Q : List Value → Shared → Prop} (hl : s.heap.IsTuple l vs.toArray) (hsz : vs.length ≤ sizeLine)
    (h : Q vs { s with heap := (s.heap.push (seqObj "list" #[] 0)).update s.heap.objs.size (Obj.mapSeq (· ++ vs.toArray)) }) : wpAny (model prog w) A (collect (.ref l)) Q E s := by
  obtain ⟨o, ho, hc, n, hd⟩ := id hl
  unfold collect
  refine wpAny_bind (wpAny_runValue (codeAny_builtin entry_proto_collect' ?_))
  show wpAny _ _ (do again (.builtin "list.__iadd__" ⟨[← newList [], .ref l], []⟩)) _ _ s
  refine wpAny_bind (wpAny_newList (wpAny_pure ⟨Code.quiet_builtin _ (by decide +kernel), codeAny_builtin entry_list_iadd' ?_⟩))
  show wpAny _ _ (Builtin.List.listExtendWith (.ref s.heap.objs.size) (.ref l) (.ref s.heap.objs.size)) _ _ { s with heap := s.heap.push (seqObj "list" #[] 0) }
  have hp : (s.heap.push (seqObj "list" #[] 0)).get? l = some o := Heap.get?_push_of_some _ ho
  unfold Builtin.List.listExtendWith
  refine wpAny_bind (wpAny_typeOf (T := "tuple") ⟨o, hp, hc⟩ ?_)
  rw [if_pos (by rw [show (Value.type "tuple" == Value.type "tuple") = true by rfl]; simp)]
  refine wpAny_bind (listItems_at hp hd ?_)
  refine wpAny_bind (listItems_at (xs := #[]) (n := 0) (Heap.get?_push_size _ rfl) rfl ?_)
  rw [if_neg (by simp)]
  refine wpAny_bind (listUpdate_at (xs := #[]) (n := 0) (Heap.get?_push_size _ rfl) rfl ?_ (Nat.zero_le _) ?hz)
  case hz =>
    show (#[] ++ vs.toArray).size ≤ sizeLine + 1
    simp only [Array.size_append, List.size_toArray, List.length_nil]
    omega
  refine wpAny_pure ?_
  show wpAny (model prog w) A (load s.heap.objs.size >>= _) Q E { s with heap := (s.heap.push (seqObj "list" #[] 0)).update s.heap.objs.size (Obj.mapSeq (· ++ vs.toArray)) }
  refine wpAny_bind (wpAny_load (get?_update_seq (Heap.get?_push_size _ rfl) _) ?_)
  show wpAny _ _ (pure ((#[] : Array Value) ++ vs.toArray).toList) Q E _
  rw [show ((#[] : Array Value) ++ vs.toArray).toList = vs by simp]
  exact wpAny_pure h
theorem sorted_tupI {l : Addr} {vs : List Value} {ns : List Int} {Q : Value → Shared → Prop} (hl : s.heap.IsTuple l vs.toArray) (hI : IntsAre vs ns) (hz : vs.length ≤ sizeLine)
    (h : ∀ out : List Value, SrtO.Srtd SrtO.ltIv out → SrtO.Stb SrtO.ltIv out vs → Q (.ref (s.heap.objs.size + 1)) { s with heap := sortedAll s.heap vs out.toArray }) :
    wpAny (model prog w) A (call (.builtin "sorted") [.ref l]) Q E s := by
  refine Calls.call_function_entry kind_sorted plain_sorted entry_sorted (args_sorted1 _) ?_
  unfold Builtin.«sorted»
  refine wpAny_bind (m := checkCount "sorted" 1 1 _) (wpAny_pure ?_)
  refine wpAny_bind (collect_tupT hl hz ?_)
  refine wpAny_bind (wpAny_newList ?_ hz)
  obtain ⟨hp, ehp⟩ : ∃ hp, hp = (s.heap.push (seqObj "list" #[] 0)).update s.heap.objs.size (Obj.mapSeq (· ++ vs.toArray)) := ⟨_, rfl⟩
  have hsz : hp.objs.size = s.heap.objs.size + 1 := by
    rw [ehp, Heap.size_update, size_push']
  have hoL : (hp.push (seqObj "list" vs.toArray 0)).get? (s.heap.objs.size + 1) = some (seqObj "list" vs.toArray 0) := by
    rw [← hsz]; exact Heap.get?_push_size _ rfl
  show wpAny _ _ _ _ _ { s with heap := ((s.heap.push (seqObj "list" #[] 0)).update s.heap.objs.size (Obj.mapSeq (· ++ vs.toArray))).push (seqObj "list" vs.toArray 0) }
  rw [← ehp, hsz]
  refine wpAny_bind (wpAny_holding (wpAny_call_entry slot_list_sort ⟨_, hoL, rfl⟩ entry_list_sort (SrtO.list_sort_ord SrtO.swo_int hoL hz (fun h2 => SrtO.ints_sortable hI h2) fun out hs hb => ⟨_, rfl, ?_⟩) (args_list_sort _)))
  have k := h out hs hb
  unfold sortedAll at k
  rw [← ehp] at k
  exact wpAny_pure ⟨_, rfl, k⟩
end
def rSortedT (K : PySem.W.Frag) : List V → Hp → VK → Prop := fun vs H Q => ∃ (a : Addr) (ns : List Int), vs = [V.ref a] ∧ SqT K H a (ns.map V.int) ∧
  ∀ (ns' : List Int) (p : Addr), ns'.Perm ns → ns'.Pairwise (· ≤ ·) → H p = none → Q (.ref p) (upd H p (.lst (ns'.map V.int)))
theorem cr_sortedT {X : Cx} : CallR X (.builtin "sorted") (rSortedT X.K) := by
  intro pins s σ H vs us Q I r h
  obtain ⟨a, ns, rfl, hs, q⟩ := h
  obtain ⟨its, rv, hl, hz⟩ := I.tuple hs
  rw [Vals.ref1 r]
  have hi := rv.ints
  refine sorted_tupI (show s.heap.IsTuple a its.toArray from hl) hi (by rw [← rv.length]; exact hz) fun out h1 h2 => ?_
  obtain ⟨k1, k2, k3⟩ := SrtO.ints_out hi h1 h2
  obtain ⟨ep, he'⟩ := PyProof.Rows.sortedAll_at s.heap its out.toArray
  have hlen : ((out.map SrtO.iv).map V.int).length ≤ sizeLine := by
    rw [List.length_map, k2.length_eq]
    rw [List.length_map] at hz
    exact hz
  exact ⟨.ref _, upd H (s.heap.objs.size + 1) (.lst ((out.map SrtO.iv).map V.int)), I.laid (t' := s.toks) (fun _ _ => PyProof.Rows.sortedAll_old) (Nat.le_succ _) ⟨hlen, out, ep, vals_of_ints k1, he'⟩, rfl, q _ _ k2 k3 (I.hok.fresh (Nat.le_succ _))⟩
section
variable {T : Tbs} {X : Cx} {G : List Cell} {mu mu1 mu2 : List Dt} {r r1 r2 : Res} {e e2 : Expr} {pos p p2 q1 : Pos}
theorem ev_sortedT {ns : List Int} (h : EvD T X G mu e r mu1) (hm : X.mg "sorted" = none) (l : look G r = some (.tup (ns.map Dt.int)) := by rfl) (hg : Gl X "sorted" := by rfl) (he : starEach [e] X.env = (false, eval e X.env) :: starEach [] X.env := by rfl) :
    EvD T X G mu (.Call (.Name "sorted" p) [e] [] pos) (.new (.lst ((sortI ns).map Dt.int))) mu1 := by
  refine ev_B cr_sortedT (cd_new l fun F fi H v Q s hv q => ?_) (ea_cons h ea_nil he) hm PyProof.Rows.boot_sorted hg (by decide) (by decide) he
  obtain ⟨a, vs, rfl, _, f2, m⟩ := hv.tup s
  rw [m.ints] at f2
  refine ⟨a, ns, rfl, SqT.of f2, fun ns' p h1 h2 hp => ?_⟩
  rw [sortI_eq h1 h2]
  exact q p _ hp (RpL.of_ints _)
end
/-! ### sorted(set(t)) -/
section
variable {P : Program} {w : World} {A : Around} {E : Value → Shared → Prop} {s : Shared}
set_option maxHeartbeats 3200000 in
/-- set(xs) -/
theorem call_set_tup {l : Addr} {items : Array Value} (ns : List Int) {Q : Value → Shared → Prop} (hh : A.handled = none) (hl : s.heap.IsTuple l items) (hi : PyProof.Rows.IntsAre items.toList ns) (hb : ns.length + 1 < scanBound)
    (h : ∀ (h' : Heap) (tk c : Nat), c ≤ ns.length → SetR w h' s.heap.objs.size (memB ns ns.length) c → (∀ b o, s.heap.get? b = some o → h'.get? b = some o) → Q (.ref s.heap.objs.size) { s with heap := h', toks := tk }) :
    wpAny (model P w) A (call (.type "set") [.ref l]) Q E s := by
  have hisz : items.size = ns.length := by
    have q := PyProof.Rows.IntsAre.length hi
    rw [Array.length_toList] at q
    exact q
  obtain ⟨c, tl, hmro⟩ := F.called_set.mro
  have hmade := F.called_set.made
  have hsub := F.called_set.sub
  refine wpAny_call (codeAny_of_tree ?_)
  show wpAny _ _ (callAny (.type "set") _) _ _ _
  refine wpAny_pure ⟨Code.quiet_builtin _ (by decide +kernel), codeAny_builtin F.entry_type_call ?_⟩
  rw [Around.under_plain (weight_type_call_type "set" [.ref l] []) rfl]
  have h1 := F.called_set.notType
  have h2 := F.called_set.canCreate
  have hct := F.typeCall_set_1 (.ref l)
  repeat (any_goals (first | assumption | wp_step))
  refine codeAny_mono (code_set_led1 (.ref l) (E := E) (Q₁ := fun obj s₁ => obj = .ref s.heap.objs.size ∧ s₁ = { s with heap := s.heap.push { cls := .type "set", dict := none, data := .set #[] 0 (.fresh 0 0 (!w.params.followText "set-order")) } }) ⟨rfl, rfl⟩) fun r s₁ hr => ?_
  cases r with
  | error e => exact hr
  | ok fl =>
    cases fl with
    | ret obj =>
      obtain ⟨rfl, rfl⟩ := hr
      have hS : (s.heap.push { cls := .type "set", dict := none, data := .set #[] 0 (.fresh 0 0 (!w.params.followText "set-order")) }).get? s.heap.objs.size = some { cls := .type "set", dict := none, data := .set #[] 0 (.fresh 0 0 (!w.params.followText "set-order")) } := Heap.get?_push_size _ rfl
      have hT : Shared.TypeIs { s with heap := s.heap.push { cls := .type "set", dict := none, data := .set #[] 0 (.fresh 0 0 (!w.params.followText "set-order")) } } (.ref s.heap.objs.size) "set" := ⟨_, hS, rfl⟩
      have hli := F.called_set.init.lookup
      have hbi := F.called_set.init.bind (.ref s.heap.objs.size)
      repeat (any_goals (first | assumption | wp_step))
      refine codeAny_mono (codeAny_call_builtin (R := wants (fun r s₂ => r = .none ∧ ∃ h' tk c, s₂ = { s with heap := h', toks := tk } ∧ c ≤ ns.length ∧ SetR w h' s.heap.objs.size (memB ns ns.length) c ∧ (∀ b o, s.heap.get? b = some o → h'.get? b = some o)) E)
        F.called_set.init.plain F.entry_set_init (check_set_init_1 hT ?_)) fun r₂ s₂ hr₂ => ?_
      · obtain ⟨ol, hol, hcl, nl, hdl⟩ := hl
        obtain ⟨ocls, odict, odata, oslots⟩ := ol
        simp only at hcl hdl
        subst hcl; subst hdl
        have hol' : (s.heap.push { cls := .type "set", dict := none, data := .set #[] 0 (.fresh 0 0 (!w.params.followText "set-order")) }).get? l = some { cls := .type "tuple", dict := odict, data := .seq items nl, slots := oslots } := Heap.get?_push_of_some _ hol
        have hsls := F.sub_tuple_set
        have hslf := F.sub_tuple_frozenset
        have hne : (Value.type "tuple" == Value.type "dict") = false := by decide
        have hl1 : (s.heap.push { cls := .type "set", dict := none, data := .set #[] 0 (.fresh 0 0 (!w.params.followText "set-order")) }).IsTuple l items := ⟨_, hol', rfl, nl, rfl⟩
        unfold Builtin.«set.__init__» noKeywords Builtin.Frozenset.updateFrom
        generalize hPI : pyIter = PI
        wp_walk
        subst hPI
        refine wpAny_pyIter_tuple hl1 ?_
        refine wpAny_bind (wpAny_runValue ?_)
        have hlS : l < s.heap.objs.size := Heap.lt_size hol
        have hh3 : A.in1.in1.in1.handled = none := by simp [hh]
        have hneI : l ≠ (s.heap.push { cls := .type "set", dict := none, data := .set #[] 0 (.fresh 0 0 (!w.params.followText "set-order")) }).objs.size := by
          rw [Heap.size_push]; exact Nat.ne_of_lt (Nat.lt_succ_of_lt hlS)
        have hSf : s.heap.objs.size ∉ [(s.heap.push { cls := .type "set", dict := none, data := .set #[] 0 (.fresh 0 0 (!w.params.followText "set-order")) }).objs.size, l] := by
          rw [Heap.size_push]; simp only [List.mem_cons, List.mem_singleton, List.not_mem_nil, or_false, not_or]
          exact ⟨Nat.ne_of_lt (Nat.lt_succ_self _), Nat.ne_of_gt hlS⟩
        have hval : ∀ (i : Nat) (v : Value), items[i]? = some v → ∃ x t, ns[i]? = some x ∧ v = .int x t := fun i v hv => by
          obtain ⟨t, e⟩ := PyProof.Rows.IntsAre.int_at hi i v (by rw [Array.getElem?_toList]; exact hv)
          have hil : i < ns.length := by rw [← hisz]; exact (Array.getElem?_eq_some_iff.mp hv).1
          refine ⟨ns.getD i 0, t, ?_, e⟩
          rw [List.getD_eq_getElem?_getD, List.getElem?_eq_getElem hil] <;> rfl
        refine set_update_ints ((Walks.tuple hh3 _ l hneI items).toS) s.heap.objs.size hSf ns hisz hval (by rw [hisz]; exact hb) (items.size - 0) 0 _ (by omega) (Nat.zero_le _)
          ⟨⟨_, Heap.get?_push_size _ rfl, rfl, rfl⟩, (hl1.push _)⟩ ?hS0 ?hR
        case hS0 =>
          refine ⟨0, Nat.le_refl _, ?_⟩
          have q : SetR w (s.heap.push { cls := .type "set", dict := none, data := .set #[] 0 (.fresh 0 0 (!w.params.followText "set-order")) }) s.heap.objs.size (fun _ => false) 0 := setR_fresh w
          exact setR_keep q (fun o e => Heap.get?_push_of_some _ e) fun x => by
            unfold memB
            rw [List.take_zero, List.any_nil]
        case hR =>
          intro s' hm ⟨c, hc, hS'⟩
          obtain ⟨h', g2, d', tk', os'⟩ := s'
          have eg : g2 = s.gens := hm.gens
          have ed : d' = s.drawn := hm.drawn
          have eo : os' = s.os := hm.os
          subst eg; subst ed; subst eo
          show wpAny _ _ _ _ _ _
          refine wpAny_pure ?_
          show wpAny _ _ (ret Value.none) _ _ _
          rw [hisz] at hc hS'
          refine wpAny_pure ⟨rfl, h', tk', c, rfl, hc, hS', fun b o e => ?_⟩
          have hbl := Heap.lt_size e
          have hb1 : b ≠ s.heap.objs.size := Nat.ne_of_lt hbl
          have hb2 : b ≠ (s.heap.push { cls := .type "set", dict := none, data := .set #[] 0 (.fresh 0 0 (!w.params.followText "set-order")) }).objs.size := by
            rw [Heap.size_push]; exact Nat.ne_of_lt (Nat.lt_succ_of_lt hbl)
          exact hm.heap b o (by simp only [List.mem_cons, List.mem_singleton, List.not_mem_nil, or_false, not_or]; exact ⟨hb1, hb2⟩) (Heap.get?_push_of_some _ (Heap.get?_push_of_some _ e))
      · cases r₂ with
        | error e => exact hr₂
        | ok fl₂ =>
          cases fl₂ with
          | ret r =>
            obtain ⟨rfl, h', tk, c, rfl, hc, hS', hk'⟩ := hr₂
            repeat (any_goals (first | assumption | wp_step))
            exact h _ _ _ hc hS' hk'
          | _ => exact hr₂.elim
    | _ => exact hr.elim
end
section
variable {T : Tbs} {X : Cx} {G : List Cell} {mu mu1 mu2 : List Dt} {r r1 r2 res : Res} {rs : List Res} {e e1 e2 : Expr} {es : List Expr} {pos p p2 q1 q2 : Pos} {d : Dt} {ds : List Dt}
/-- sorted(set(e)), a tuple -/
def tSortSetT (K : PySem.W.Frag) (ta : TE) : TE := fun σ H Q => ta σ H fun x H1 => ∃ (l : Addr) (ns : List Int), x = V.ref l ∧ SqT K H1 l (ns.map V.int) ∧ ns.length < 64 ∧ ∀ p, H1 p = none → Q (.ref p) (upd H1 p (.lst ((ssetI ns).map V.int)))
theorem pe_sortsetT {a : Expr} {ta : TE} {p p2 q pos : Pos} (hc : X.calm = true) (hg : Gl X "sorted") (hm : X.mg "sorted" = none) (hg2 : Gl X "set") (hm2 : X.mg "set" = none) (ha : PE X a ta)
    (na : starEach [a] X.env = (false, eval a X.env) :: starEach [] X.env := by rfl) : PE X (.Call (.Name "sorted" p) [.Call (.Name "set" p2) [a] [] q] [] pos) (tSortSetT X.K ta) := by
  refine ⟨fun pins s σ H Q I h => ?_⟩
  refine Call_ (ld_blt I hg hm PyProof.Rows.boot_sorted ?_)
  refine PyProof.Rows.callWith_builtin1 (PyProof.Rows.args_cons ?_ rfl) rfl rfl
  refine Call_ (ld_blt I hg2 hm2 PyProof.Rows.boot_set ?_)
  refine PyProof.Rows.callWith_type1 (PyProof.Rows.args_cons (thn (ha.run pins s σ H _ I h) fun v s1 ⟨x, H1, I1, r1, q1⟩ => PyProof.Rows.args_nil ?_) na) na rfl
  obtain ⟨l, ns, rfl, hq, h1, q1⟩ := q1
  cases r1
  obtain ⟨its, r, pl, hz⟩ := I1.tuple hq
  refine call_set_tup ns (I1.ok.hd hc) (show s1.heap.IsTuple l its.toArray from pl) (by simpa using r.ints) (by unfold scanBound; omega) fun h' tk c hcn hS hk => ?_
  refine PyProof.Rows.args_nil ?_
  have I2 : Inv X pins σ H1 { s1 with heap := h', toks := tk } := I1.kept hk
  refine sorted_set hS (I2.ok.hd hc) (by omega) fun s' p out c' ms k g o hp hgl hi hs hmem hl => ?_
  have hlen : (ms.map V.int).length ≤ sizeLine := by rw [List.length_map, hl, sizeLine_eq]; omega
  have hn : H1 p = none := I2.hok.fresh hp
  have J : Inv X pins σ (upd H1 p (.lst (ms.map V.int))) s' := I2.call' (ch := []) o (Un.laid k hp hn) (I2.hok.laid k hp ⟨hlen, out.toList, c', vals_of_ints hi, hgl⟩) (by rw [g]; exact I2.bare) (fun _ z => nomatch z)
  have em : ms = ssetI ns := lt_ext hs (ssetI_ord ns) fun k => by
    rw [hmem k, mem_ssetI]
    unfold memB
    rw [List.take_length, List.any_eq_true]
    constructor
    · rintro ⟨x, hx, e⟩
      rw [← beq_iff_eq.mp e]
      exact hx
    · intro hx
      exact ⟨k, hx, beq_iff_eq.mpr rfl⟩
  rw [em] at J
  exact ⟨.ref p, _, J, rfl, q1 p hn⟩
theorem ev_sortsetT {ns : List Int} (hc : X.calm = true) (h : EvD T X G mu e r mu1) (hm : X.mg "sorted" = none) (hm2 : X.mg "set" = none) (h64 : ns.length < 64) (l : look G r = some (.tup (ns.map Dt.int))) (hg : Gl X "sorted" := by rfl) (hg2 : Gl X "set" := by rfl) (he : starEach [e] X.env = (false, eval e X.env) :: starEach [] X.env := by rfl) :
    EvD T X G mu (.Call (.Name "sorted" p) [.Call (.Name "set" p2) [e] [] q1] [] pos) (.new (.lst ((ssetI ns).map Dt.int))) mu1 := by
  refine pe_imp (pe_sortsetT hc hg hm hg2 hm2 h he) fun sg H Q ⟨B, F, fi, e, q⟩ => ⟨B, F, fi, e, fun v F1 fi1 H1 s1 p1 e1 h1 => ?_⟩
  obtain ⟨a, vs, rfl, _, f2, m⟩ := (e1.view h1 l).tup e1.sub
  rw [m.ints] at f2
  refine ⟨a, ns, rfl, SqT.of f2, h64, fun p hp => ?_⟩
  -- a new list that was given to set is nobody's from here on
  obtain ⟨F2, s2, e2, h2⟩ := e1.hold h1
  obtain ⟨e3, k3⟩ := e2.newL hp (RpL.of_ints (ssetI ns))
  exact q _ F2 fi1 _ (s1.trans s2) p1 e3 k3
end
end Dl

set_option Elab.async false
set_option linter.all false
set_option maxRecDepth 100000
set_option maxHeartbeats 4000000
/-! Dn3: d.get(k, z), d.items(), sum(d.values()), {k: v}. -/
namespace Dn
open PySem PySem.Spec PyProof.Rows L2
/-! ### d.get(k, z) -/
def tNGet2 (td ty tz : TE) : TE := fun σ H Q => td σ H fun x H1 => ∃ a, x = .ref a ∧ (∃ xs1, NRd H1 a xs1) ∧ ty σ H1 fun y H2 => tz σ H2 fun z H3 => ∃ xs k b, NRd H3 a xs ∧ y = .ref b ∧ KIs H3 k (.ref b) ∧ k.depth ≤ 8 ∧ Q ((atV xs k).getD z) H3
theorem relO_getD {o : Option V} {o' : Option Value} {z : V} {r : Value} (h : RelO o o') (rz : RelV z r) : RelV (o.getD z) (o'.getD r) := by
  cases o with
  | none =>
    cases o' with
    | none => exact rz
    | some _ => exact h.elim
  | some v =>
    cases o' with
    | none => exact h.elim
    | some _ => exact h
section
variable {X : Cx} {o e f : Expr} {apos cpos : Pos} {td ty tz : TE}
theorem pe_nget2 (hu : X.A.units + 9 < cLine) (ho : PE X o td) (he : PE X e ty) (hf : PE X f tz) (m : M2 X o "get" apos e f cpos) : PE X (.Call (.Attribute o "get" apos) [e, f] [] cpos) (tNGet2 td ty tz) := by
  refine ⟨fun pins s σ H Q I h => ?_⟩
  refine wpAny_Call_method m.base m.few m.line PySem.F.plainAttrs_dict PySem.F.slot_dict_get PySem.F.type_dict_get (thn (ho.run pins s σ H _ I h) fun u s1 ⟨x, H1, I1, rx, a, ex, ⟨xs1, g1⟩, q1⟩ => ?_)
  subst ex
  obtain rfl : u = Value.ref a := rx
  obtain ⟨es, ep, hr, pr⟩ := raw_of I1.hok g1
  obtain ⟨oo, hoo, hx, hd⟩ := id hr
  refine ⟨hr.typeIs, fun b e => ?_, ?_⟩
  · cases e
    exact ⟨oo, hoo, hx.2.1⟩
  rw [m.trees]
  refine wpAny_dict_get2_heap (knd := nestedKind X.prog X.w) (by show X.A.in1.units + 8 < cLine; rw [Around.in1_units]; omega) g1.1 (thn (he.run pins s1 σ H1 _ I1 q1) fun iv s2 ⟨y, H2, I2, ry, q2⟩ => thn (hf.run pins s2 σ H2 _ I2 q2) fun fv s3 ⟨z, H3, I3, rz, xs, k, b, g, ey, hk, hdp, q3⟩ => ?_)
  subst ey
  obtain rfl : iv = Value.ref b := ry
  obtain ⟨zs, rel, dd⟩ := n_rd I3.hok g
  exact ⟨b, k, zs, rfl, ⟨KIs.nested I3.hok hk rfl, hdp⟩, dd, ⟨_, H3, I3.tok _, relO_getD (rel_at rel k) rz, q3⟩⟩
end
/-! ### d.items() -/
def Itni (d : Addr) (od : Obj) (xs : List EntN) : It :=
  ⟨fun i H => H d = some (ObjN d od) ∧ i < xs.length, fun i H v H' => ∃ T x, xs[i]? = some x ∧ v = .ref T ∧ H T = none ∧ H' = upd H T (.tup [.ref x.2.1, x.2.2]), fun i H => H d = some (ObjN d od) ∧ xs.length ≤ i⟩
theorem turn_ni {P : Program} {w : World} {K : PySem.W.Frag} {elts : List Expr} {kk : Nat} {tpos : Pos} {d : Addr} {od : Obj} {es : Array DictEntry} {ep : Nat} {xs : List EntN} (it : Addr) (hx : od.ExactDict) (hod : od.data = .dict es ep) (pr : Paired EntR xs es.toList) :
    Turn P w K (.Tuple elts kk tpos) (Itni d od xs) [it] it (fun i h => ∃ ok ov, IsItemIter h it d i es.size ep ok ov) where
  mem := by simp
  obj := fun i h st b hb => by
    have e : b = it := by simpa using hb
    subst e
    obtain ⟨ok, ov, e⟩ := st
    exact ⟨_, e, fun v z => nomatch z⟩
  keep := fun i h h' st k => by
    obtain ⟨ok, ov, e⟩ := st
    exact ⟨ok, ov, k it (by simp) _ e⟩
  item := by
    intro X hP hw hK hc i pins s σ H E I hf st hg
    subst hP hw hK
    obtain ⟨hd, hi⟩ := hg
    obtain ⟨ok, ov, st⟩ := st
    have l2 : xs.length = es.size := len_of pr
    obtain ⟨x, hx2⟩ : ∃ x, xs[i]? = some x := ⟨xs[i], List.getElem?_eq_getElem hi⟩
    obtain ⟨en, hen, hr⟩ := pr_get pr hx2
    rw [Array.getElem?_toList] at hen
    have hi2 : i < es.size := by omega
    have een : es[i] = en := by
      rw [Array.getElem?_eq_getElem hi2] at hen
      exact Option.some.inj hen
    have hlt : it < s.heap.objs.size := Heap.lt_size st
    refine wpAny_pyNext_items_item_raw st ⟨od, ObjN.at I.hok hd, hx, hod⟩ hi2 fun h' ho hT hz hk => ?_
    rw [een] at ho hT
    refine ⟨_, rfl, wpAny_letOwnedTupleGo_items (s := { s with heap := h' }) ho fun h'' he' sb => ?_⟩
    have hT2 : h''.get? s.heap.objs.size = some { cls := .type "tuple", data := .seq #[en.key, en.val] } := (sb.2 _ (Nat.ne_of_gt hlt)).trans hT
    have new : ObjOk X.prog X.w (upd H s.heap.objs.size (.tup [.ref x.2.1, x.2.2])) h'' s.heap.objs.size (.tup [.ref x.2.1, x.2.2]) :=
      ⟨by show 2 ≤ sizeLine; decide, [en.key, en.val], .cons hr.2.1 (.cons hr.2.2 .nil), ⟨_, hT2, rfl, _, rfl⟩⟩
    have I1 : Inv X pins σ (upd H s.heap.objs.size (.tup [.ref x.2.1, x.2.2])) { s with heap := h'' } :=
      I.turnedNew (t' := s.toks) (ch := [it]) (fun b ob hb e => (sb.2 b (by simpa using hb)).trans (hk b ob (by simpa using hb) e)) hf (Nat.le_refl _) new
    refine ⟨.ref s.heap.objs.size, _, I1, rfl, ⟨_, x, hx2, rfl, I.hok.fresh (Nat.le_refl _), rfl⟩, ⟨_, _, he'⟩, fun b hb => ?_⟩
    have e : b = it := by simpa using hb
    rw [e, upd_ne (Nat.ne_of_lt hlt)]
    exact (hf it (by simp)).1
  done := by
    intro X hP hw hK hc i pins s σ H E I hf st hg
    subst hP hw hK
    obtain ⟨hd, hi⟩ := hg
    obtain ⟨f0, f1, f2, f3, f4, f5⟩ := hf it (by simp)
    obtain ⟨ok, ov, st⟩ := st
    have l2 : xs.length = es.size := len_of pr
    exact wpAny_pyNext_items_end_raw (I.ok.hd hc) st ⟨od, ObjN.at I.hok hd, hx, hod⟩ (by omega) fun h' eb => ⟨rfl, I.turned (t' := s.toks) (fun b ob hb e => eb b ob hb e) f0 f1 f3 f4 f5⟩
  self := fun A i s Q E st h => let ⟨_, _, e⟩ := st; wpAny_pyIter_itemiter e h
def iNItems (td : TE) : TI := fun σ H R => td σ H fun v H1 => ∃ d xs, v = .ref d ∧ NRd H1 d xs ∧ ∀ od, H1 d = some (ObjN d od) → IsDN od xs → R (Itni d od xs) H1
theorem pi_nitems {X : Cx} {e : Expr} {td : TE} {apos cpos tpos : Pos} {elts : List Expr} {kk : Nat} (he : PE X e td) (hbase : attributeBase e "items" X.env (eval e X.env) = eval e X.env := by rfl) (hline : (apos.endLine == cpos.line) = true := by rfl) :
    PI X (.Tuple elts kk tpos) (.Call (.Attribute e "items" apos) [] [] cpos) (iNItems td) := by
  refine ⟨fun pins s σ H R I h => ?_⟩
  refine wpAny_Call_method (T := "dict") (id := "dict.items") hbase rfl hline PySem.F.plainAttrs_dict PySem.F.slot_dict_items PySem.F.type_dict_items (thn (he.run pins s σ H _ I h) fun u s1 ⟨x, H1, I1, rx, d, xs, ex, g, q⟩ => ?_)
  subst ex
  obtain rfl : u = Value.ref d := rx
  obtain ⟨es, ep, hr, pr⟩ := raw_of I1.hok g
  obtain ⟨hs, z, ⟨od, e1, hIs⟩, hk⟩ := id g
  obtain ⟨hx, es', ep', hdt, pr'⟩ := id hIs
  obtain ⟨o, ho, hx2, hd⟩ := id hr
  refine ⟨hr.typeIs, fun b e => ?_, ?_⟩
  · cases e
    exact ⟨o, ho, hx2.2.1⟩
  have I2 : Inv X pins σ H1 { s1 with heap := s1.heap.push { cls := .type "dict_items", data := .fields #[.ref d] } } := I1.kept (t' := s1.toks) fun b ob q => Heap.get?_push_of_some _ q
  have hraw : s1.heap.DictRaw d es' ep' := ⟨od, ObjN.at I1.hok e1, hx, hdt⟩
  have fin : wpAny (model X.prog X.w) X.A (pyIter (.ref s1.heap.objs.size)) (PIE X pins σ (.Tuple elts kk tpos) R) X.xe { s1 with heap := s1.heap.push { cls := .type "dict_items", data := .fields #[.ref d] } } := by
    refine wpAny_pyIter_items_raw (d := d) ⟨_, Heap.get?_push_size _ rfl, rfl, rfl⟩ (hraw.at fun o e => Heap.get?_push_of_some _ e) (pi_one (tk := s1.toks) I2 _ (turn_ni _ hx hdt pr') ⟨.none, .none, Heap.get?_push_size _ rfl⟩ (q od e1 hIs))
  show wpAny _ _ (callWith cpos (.builtin "dict.items") [.ref d] [] []) _ X.xe s1
  exact method_meetsIn PySem.F.slot_dict_items PySem.F.entry_dict_items rfl (PySem.evalArgs_none ⟨rfl, hr.typeIs, PySem.F.args_dict_items_1 _, _, meets_dict_items_raw d g.1, ⟨es, ep, hr⟩, fin⟩)
/-! ### sum(d.values()) -/
def rSumVals : List V → Hp → VK → Prop := fun vs H Q => ∃ (p d : Addr) (xs : List EntN) (ns : List Int), vs = [V.ref p] ∧ H p = some (viewV p d) ∧ NRd H d xs ∧ xs.map (·.2.2) = ns.map V.int ∧ Q (.int ns.sum) H
theorem preSum_all (ns : List Int) : ∀ n, n ≤ ns.length → preSum (fun i => ns.getD i 0) n = (ns.take n).sum
  | 0, _ => by rw [List.take_zero] <;> rfl
  | n + 1, h => by
    show preSum _ n + ns.getD n 0 = _
    rw [preSum_all ns n (by omega), List.take_add_one, List.getElem?_eq_getElem (by omega), getD_at (by omega), Option.toList_some, List.sum_append, List.sum_singleton]
theorem cr_sumVals {X : Cx} (hc : X.calm = true) : CallR X (.builtin "sum") rSumVals := by
  intro pins s σ H vs us Q I r h
  obtain ⟨p, d, es0, ns, rfl, hp, g, hns, q⟩ := h
  rw [Vals.ref1 r]
  obtain ⟨es, ep, hr, pr⟩ := raw_of I.hok g
  have hvw : s.heap.get? p = some { cls := .type "dict_values", data := .fields #[.ref d] } := (show ObjOk X.prog X.w H s.heap p (viewV p d) from I.hok p _ hp).1
  have hsz : es.size = ns.length := by
    have h1 := len_of pr
    have h2 := congrArg List.length hns
    rw [List.length_map, List.length_map] at h2
    omega
  have hv : ∀ (i : Nat) (v : Value), (∃ hi : i < es.size, v = es[i].val) → ∃ t, v = .int (ns.getD i 0) t := fun i v ⟨hi, e⟩ => by
    have h1 := len_of pr
    obtain ⟨x, hx⟩ : ∃ x, es0[i]? = some x := ⟨es0[i], List.getElem?_eq_getElem (by omega)⟩
    obtain ⟨en, hen, hr2⟩ := pr_get pr hx
    rw [Array.getElem?_toList, Array.getElem?_eq_getElem hi] at hen
    cases hen
    have e2 : (es0.map (·.2.2))[i]? = some x.2.2 := by rw [List.getElem?_map, hx] <;> rfl
    rw [hns, List.getElem?_map, List.getElem?_eq_getElem (by omega)] at e2
    have e3 : x.2.2 = V.int ns[i] := (Option.some.inj e2).symm
    have r := hr2.2.2
    rw [e3] at r
    rw [getD_at (by omega), e]
    exact r
  have hd : d < s.heap.objs.size := by obtain ⟨o, ho, _⟩ := hr; exact Heap.lt_size ho
  refine call_sum_walkAnyS (wpAny_pyIter_values_raw (A := X.A.in1) ⟨_, hvw, rfl, rfl⟩ hr ?_)
  refine ⟨s.heap.objs.size, _, _, _, _, _, _, fun i => ns.getD i 0, rfl, (Walks.rawValues (show X.A.in1.handled = none from I.ok.hd hc) s.heap.objs.size d (Nat.ne_of_lt hd) es ep).toS, ⟨⟨_, Heap.get?_push_size _ rfl, rfl, rfl⟩, hr.at fun o e => Heap.get?_push_of_some _ e⟩, fun b hb => ?_, hv, fun s' t' m => ?_⟩
  · show b < (s.heap.push _).objs.size
    rw [Heap.size_push]
    rcases List.mem_cons.mp hb with z | z
    · rw [z]
      exact Nat.lt_succ_self _
    · rw [List.mem_singleton.mp z]
      exact Nat.lt_succ_of_lt hd
  · obtain ⟨h', tk, rfl, hk'⟩ := PySem.W.moved_old rfl rfl m
    refine ⟨.int ns.sum, H, I.kept (t' := tk) hk', ⟨t', ?_⟩, q⟩
    rw [hsz, preSum_all ns ns.length (Nat.le_refl _), List.take_length]
/-! ### {k: v} -/
def tNNew1 (tk tv : TE) : TE := fun σ H Q => ∀ p od0, H p = none → NRd (upd H p (ObjN p od0)) p [] → tk σ (upd H p (ObjN p od0)) fun y H1 => tv σ H1 fun v H2 => ∃ k b, H2 p = some (ObjN p od0) ∧ y = .ref b ∧ KIs H2 k (.ref b) ∧ k.depth ≤ 8 ∧ plainK k = true ∧
  ∀ od, NRd (upd H2 p (ObjN p od)) p [(k, b, v)] → Q (.ref p) (upd H2 p (ObjN p od))
theorem pe_nnew1 {X : Cx} {kx vx : Expr} {pos : Pos} {tk tv : TE} (hu : X.A.units + 9 < cLine) (hk : PE X kx tk) (hv : PE X vx tv) : PE X (.Dict [some kx] [vx] pos) (tNNew1 tk tv) := by
  refine ⟨fun pins s σ H Q I h => ?_⟩
  have hn := I.hok.fresh (Nat.le_refl s.heap.objs.size)
  obtain ⟨od0, hod0⟩ : ∃ od0 : Obj, od0 = { cls := .type "dict", data := .dict #[] } := ⟨_, rfl⟩
  have ho : (s.heap.push od0).get? s.heap.objs.size = some od0 := by rw [hod0]; exact Heap.get?_push_size _ rfl
  have g0 : NRd (upd H s.heap.objs.size (ObjN s.heap.objs.size od0)) s.heap.objs.size [] :=
    ⟨beq_eq_false_iff_ne.mpr (Ne.symm (Nat.ne_of_lt I.big)), Nat.zero_le _, ⟨_, upd_same, ⟨by rw [hod0]; exact ⟨rfl, rfl, rfl⟩, #[], 0, by rw [hod0], .nil⟩⟩, ⟨fun x hx => (nomatch hx), List.nodup_nil⟩⟩
  have I1 : Inv X pins σ (upd H s.heap.objs.size (ObjN s.heap.objs.size od0)) { s with heap := s.heap.push od0 } :=
    I.laid (a := s.heap.objs.size) (o := ObjN s.heap.objs.size od0) (t' := s.toks) (fun _ _ q => Heap.get?_push_of_some _ q) (Nat.le_refl _) (ObjN.ok ho)
  have hshape : (evalEachOpt [some kx] X.env).zip ((evalEach [vx] X.env).map fun (v : Sem Value) => (do let x ← v; standAt pos; pure x : Sem Value)) = [(eval kx X.env, (do let x ← eval vx X.env; standAt pos; pure x : Sem Value))].map fun p => (some p.1, p.2) := rfl
  rw [arm_eval_Dict, hshape, dictDisplay_pairs _ (by simp) (by simp)]
  refine wpAny_bind (wpAny_standAt (wpAny_bind (wpAny_subDictH (knd := nestedKind X.prog X.w) (by show X.A.units + 8 < cLine; omega) (by simp) ?_)))
  rw [← hod0]
  refine evalPairs_cons (thn (hk.run pins _ σ _ _ I1 (h _ od0 hn g0)) fun u s1 ⟨y, H1, I2, ry, q1⟩ => wpAny_bind (thn (hv.run pins s1 σ H1 _ I2 q1) fun r s2 ⟨v, H2, I3, rv, k, b, hp, ey, hkk, hd, hpl, q2⟩ => wpAny_bind (wpAny_standAt (wpAny_pure (evalPairs_nil ?_)))))
  subst ey
  obtain rfl : u = Value.ref b := ry
  have hat := ObjN.at I3.hok hp
  have dd : s2.heap.DictOfH (nestedKind X.prog X.w) s.heap.objs.size [] := ⟨od0, #[], 0, hat, by rw [hod0]; exact ⟨rfl, rfl, rfl⟩, by rw [hod0], rfl, fun z hz => (nomatch hz), List.nodup_nil⟩
  refine ⟨[(k, b, r)], ⟨rfl, rfl, ⟨KIs.nested I3.hok hkk rfl, hd⟩, True.intro⟩, dd, fun h' tk hm hs => wpAny_pure ?_⟩
  obtain ⟨q, es, ep, hq, h2, h3, h4, _, h5⟩ := hm
  have k2 : KeysN (upd H2 s.heap.objs.size (ObjN s.heap.objs.size q)) [(k, b, v)] := by
    refine ⟨fun x hx => ?_, by simp⟩
    rw [List.mem_singleton.mp hx]
    exact ⟨hkk.mono fun c ys ec => by
      rw [upd_ne (ne_of ec hp (fun z => nomatch z))]
      exact ec, hd, hpl⟩
  refine ⟨.ref s.heap.objs.size, _, d_write I3 (by rw [hp]; exact True.intro) hs ⟨q, hq⟩ (ObjN.ok hq), rfl, q2 q ⟨g0.1, (by show 1 ≤ sizeLine; decide), ⟨q, upd_same, h2, es, ep, h3, ?_⟩, k2⟩⟩
  rw [h4]
  exact ent_to (zs := [(k, b, r)]) (.cons ⟨rfl, rfl, rv⟩ .nil) fun x hx => by rw [List.mem_singleton.mp hx]; exact hpl
end Dn

set_option Elab.async false
set_option linter.all false
set_option maxRecDepth 100000
set_option maxHeartbeats 4000000
/-! DlIt: d.get(k, z), d.items(), sum(d.values()), {k: v} of dicts with nested keys; [x] * n; x in t. -/
namespace Dl
open PySem PySem.Spec PyProof.Rows L2
section
variable {K : PySem.W.Frag} {F : Hp} {fi : List Addr} {κ : Type} {t : κ → Dt}
theorem end_get {xs : List Dn.EntN} {kvs : List (κ × Dt)} (h : EnD K F fi t xs kvs) : ∀ {i : Nat} {d : Dt}, (kvs.map fun q => Dt.tup [t q.1, q.2])[i]? = some d → ∃ (x : Dn.EntN) (q : κ × Dt), xs[i]? = some x ∧ d = .tup [t q.1, q.2] ∧ Rp K F fi (.ref x.2.1) (t q.1) ∧ Rp K F fi x.2.2 q.2 := by
  induction h with
  | nil => intro i d h; simp at h
  | @cons x p xs kvs q _ ih =>
    intro i d h
    cases i with
    | zero =>
      have h : some (Dt.tup [t p.1, p.2]) = some d := h
      exact ⟨x, p, rfl, (Option.some.inj h).symm, q.2.1, q.2.2⟩
    | succ i => exact ih (i := i) (by simpa using h)
theorem Feeds.itemsN {a : Addr} {od : Obj} {xs : List Dn.EntN} {kvs : List (κ × Dt)} (h : F a = some (Dn.ObjN a od)) (r : EnD K F fi t xs kvs) : Feeds K (Dn.Itni a od xs) F fi (kvs.map fun q => Dt.tup [t q.1, q.2]) where
  go := fun i d H s hi => by
    obtain ⟨x, q, hx, rfl, h1, h2⟩ := end_get r hi
    refine ⟨⟨s _ _ h, (List.getElem?_eq_some_iff.mp hx).1⟩, fun y H' ⟨T, x', hx', e1, e2, e3⟩ => ?_⟩
    rw [hx] at hx'
    cases hx'
    exact .inr ⟨T, _, _, e1, e2, e3, .cons h1 (.cons h2 .nil), rfl⟩
  stop := fun H s => ⟨s _ _ h, by
    have := Dn.rel_len r
    rw [List.length_map]
    omega⟩
end
section
variable {T : Tbs} {X : Cx} {W : WX} {G : List Cell} {mu mu1 mu2 mu3 : List Dt} {a b e o kx zx tg : Expr} {r r1 r2 : Res} {d z : Dt} {pos pos' p apos cpos tpos : Pos} {κ : Type} {t : κ → Dt} [DecidableEq κ] {elts : List Expr} {kk : Nat}
/-- d.get(k, z) -/
theorem ev_nget2 (kt : KeyT κ t) {kvs : List (κ × Dt)} {k : κ} (hu : X.A.units + 9 < cLine) (ho : EvD T X G mu o r mu1) (hk : EvD T X G mu1 kx (.dat (t k)) mu2) (hz : EvD T X G mu2 zx (.dat z) mu3) (l : look G r = some (dicN t kvs) := by rfl) (m : M2 X o "get" apos kx zx cpos := by exact ⟨rfl, rfl, rfl, rfl⟩) :
    EvD T X G mu (.Call (.Attribute o "get" apos) [kx, zx] [] cpos) (.dat ((getA kvs k).getD z)) mu3 := by
  refine pe_imp (Dn.pe_nget2 hu ho hk hz m) fun sg H Q ⟨B, F, fi, e, q⟩ => ⟨B, F, fi, e, fun x F1 fi1 H1 s1 p1 e1 h1 => ?_⟩
  obtain ⟨F2, s2, e2, h2⟩ := e1.hold h1
  obtain ⟨a, xs1, rfl, g1, en1⟩ := (e2.viewH h2 l).dicN kt e2.sub
  refine ⟨a, rfl, ⟨xs1, g1⟩, B, F2, fi1, e2, fun y F3 fi3 H3 s3 p3 e3 h3 => ⟨B, F3, fi3, e3, fun zv F4 fi4 H4 s4 p4 e4 h4 => ?_⟩⟩
  obtain ⟨a', xs, ea, g, en⟩ := (e4.viewH (h2.keep (s3.trans s4) (p3.trans p4)) l).dicN kt e4.sub
  cases ea
  obtain ⟨b, rfl⟩ := key_ref kt h3
  have h3' : Rp X.K F4 fi4 (.ref b) (t k) := Rp.mono s4 p4 h3
  refine ⟨xs, nkey (t k), b, g, rfl, Rp.kis e4.sub h3' (kt.ok k), (nkey_dep 8 _ (kt.ok k)).1, q _ F4 fi4 H4 (((s1.trans s2).trans s3).trans s4) ((p1.trans p3).trans p4) e4 ?_⟩
  obtain ⟨k1, k2⟩ := en.at kt k
  show Rp X.K F4 fi4 _ ((getA kvs k).getD z)
  cases hg : getA kvs k with
  | some d =>
    obtain ⟨v, hv, rv⟩ := k1 d hg
    rw [hv]
    exact rv
  | none =>
    rw [hg] at k2
    have : Dn.atV xs (nkey (t k)) = none := by
      cases hv : Dn.atV xs (nkey (t k)) with
      | none => rfl
      | some v => rw [hv] at k2; cases k2
    rw [this]
    exact h4
/-- for k, v in d.items() (d is data) -/
theorem ei_itemsN (kt : KeyT κ t) {kvs : List (κ × Dt)} (h : EvD T X G mu e (.dat (dicN t kvs)) mu1) (hbase : attributeBase e "items" X.env (eval e X.env) = eval e X.env := by rfl) (hline : (apos.endLine == cpos.line) = true := by rfl) :
    EvI T X G mu (.Tuple elts kk tpos) (.Call (.Attribute e "items" apos) [] [] cpos) (kvs.map fun q => Dt.tup [t q.1, q.2]) mu1 := by
  refine pi_imp (Dn.pi_nitems h hbase hline) fun sg H R ⟨B, F, fi, e, q⟩ => ⟨B, F, fi, e, fun v F1 fi1 H1 s1 p1 e1 m1 => ?_⟩
  cases m1 with
  | @dic a _ u _ ka vs _ h1 h2 h3 h4 =>
    obtain ⟨xs, g1, g2⟩ := viewN (kvs := kvs) kt e1.sub (e1.sub _ _ h1) h2 h3 h4
    refine ⟨a, xs, rfl, g1, fun od ho hd => q F1 fi1 H1 _ s1 p1 e1 (Feeds.itemsN ?_ g2)⟩
    have := e1.sub _ _ h1
    rw [this] at ho
    cases ho
    exact h1
/-- sum(d.values()) of ints -/
theorem ev_sumVals (kt : KeyT κ t) {kvs : List (κ × Dt)} {ns : List Int} (hc : X.calm = true) (h : EvD T X G mu o (.dat (dicN t kvs)) mu1) (hm : X.mg "sum" = none) (hv : kvs.map (·.2) = ns.map Dt.int) (hg : Gl X "sum" := by rfl)
    (hbase : attributeBase o "values" X.env (eval o X.env) = eval o X.env := by rfl) (hline : (apos.endLine == cpos.line) = true := by rfl)
    (he : starEach [.Call (.Attribute o "values" apos) [] [] cpos] X.env = (false, eval (.Call (.Attribute o "values" apos) [] [] cpos) X.env) :: starEach [] X.env := by rfl)
    (hpl : (backTo pos (starEach ([] : List Expr) X.env)).any (·.1) = false := by rfl) :
    EvD T X G mu (.Call (.Name "sum" p) [.Call (.Attribute o "values" apos) [] [] cpos] [] pos) (.dat (.int ns.sum)) mu1 := by
  refine pe_imp (pe_callB (Dn.cr_sumVals hc) hg hm boot_sum (pa_cons (Dn.pe_nvals h hbase hline) pa_nil he) (by decide) (by decide) he hpl) fun sg H Q ⟨B, F, fi, e, q⟩ => ?_
  refine ⟨B, F, fi, e, fun v F1 fi1 H1 s1 p1 e1 m1 => ?_⟩
  cases m1 with
  | @dic a _ u _ ka vs _ h1 h2 h3 h4 =>
    obtain ⟨xs, g1, g2⟩ := viewN (kvs := kvs) kt e1.sub (e1.sub _ _ h1) h2 h3 h4
    refine ⟨a, xs, rfl, g1, fun pw hp => ?_⟩
    obtain ⟨e1', hF, _, _, _⟩ := e1.put hp (Dn.viewV pw a)
    obtain ⟨xs2, k1, k2⟩ := viewN (kvs := kvs) kt e1'.sub (e1'.sub _ _ h1) h2 h3 h4
    have hv2 : xs2.map (·.2.2) = ns.map V.int := by
      have := k2.to.2.2
      rw [hv] at this
      exact this.ints
    exact ⟨pw, a, xs2, ns, rfl, upd_same, k1, hv2, q _ F1 fi1 _ s1 p1 e1' (.int _)⟩
/-- [x, ..] * n -/
theorem ev_rep {ds : List Dt} {n : Int} (ha : EvD T X G mu a r1 mu1) (hb : EvD T X G mu1 b r2 mu2) (h1 : -(2 ^ 63) ≤ n) (h2 : n < 2 ^ 63) (h3 : ds.length * n.toNat ≤ sizeLine) (l1 : look G r1 = some (.lst ds) := by rfl) (l2 : look G r2 = some (.int n) := by rfl) :
    EvD T X G mu (.BinOp a .Mult b pos) (.new (.lst (List.replicate n.toNat ds).flatten)) mu2 := by
  refine ev_bin op_rep (fun B F fi sg H v u Q e g1 g2 q => ?_) ha hb
  obtain ⟨p, vs, rfl, f1, m1⟩ := (e.viewH g1 l1).lst e.sub
  have hn := (e.viewH g2 l2).int
  refine ⟨p, n, vs, rfl, hn, f1, h1, h2, by rw [m1.length]; exact h3, fun p' hp => ?_⟩
  have m2 : ∀ k : Nat, RpL X.K F fi (List.replicate k vs).flatten (List.replicate k ds).flatten := by
    intro k
    induction k with
    | zero => exact .nil
    | succ k ih =>
      rw [List.replicate_succ, List.replicate_succ, List.flatten_cons, List.flatten_cons]
      exact m1.append ih
  obtain ⟨e2, k2⟩ := e.newL hp (m2 n.toNat)
  exact q _ F fi _ (Sub.refl F) (List.prefix_refl _) e2 k2
/-- x not in t, t a tuple -/
theorem op_notInT (hu : X.A.units + 65 < cLine) : OpR X (compareOp .NotIn) (fun x y H Q => ∃ d ds, Dp X.K H x d ∧ Dp X.K H y (.tuple ds) ∧ SeqAt.shaped d = true ∧ SeqAt.shaped (.tuple ds) = true ∧ Q (.bl (!ds.any fun z => PyData.eqv z d)) H) := by
  intro pins s σ H x y v u Q I rx ry h
  obtain ⟨d, ds, hd, he, sd, se, q⟩ := h
  obtain ⟨as, r1⟩ := Dp.reads I d x v hd rx
  obtain ⟨bs, r2⟩ := Dp.reads I (.tuple ds) y u he ry
  exact SeqAt.notIn_tuple_reads r2 r1 (SeqAt.canLay_of_shaped se) (SeqAt.canLay_of_shaped sd) (room_in_shaped sd hu) ⟨.bl _, H, I, rfl, q⟩
theorem et_notinT (hu : X.A.units + 65 < cLine) {ds : List Dt} {d1 : Dt} {k : Bool} (ha : EvD T X G mu a r1 mu1) (hb : EvD T X G mu1 b r2 mu2) (hk : (ds.any fun z => PyData.eqv z.py d1.py) = k) (s1 : d1.dep 60 = true) (s2 : (Dt.tup ds).dep 60 = true) (l1 : look G r1 = some d1 := by rfl) (l2 : look G r2 = some (.tup ds) := by rfl)
    (hm : behindInMarks .NotIn b = false := by rfl) : EvT T X G mu (.Compare a [.NotIn] [b] pos) ((!k)) mu2 :=
  et_cmp (op_notInT hu) (op2_val l1 l2 fun F fi H v u Q s h1 h2 q => ⟨d1.py, ds.map Dt.py, h1.dp s s1, by rw [← Dt.pyAll_map]; exact h2.dp s s2, Dt.shaped s1, by rw [← Dt.pyAll_map]; exact Dt.shaped s2, by
    rw [List.any_map]
    have e : (ds.any ((fun z => PyData.eqv z d1.py) ∘ Dt.py)) = k := hk
    rw [e]
    exact q _ (.bl _)⟩) hm ha hb
end
/-! ### an object that is being made stays -/
section
variable {K : PySem.W.Frag} {T : Tbs} {B : Bs} {F : Hp} {fi : List Addr} {sg : L2.St} {H : Hp} {G : List Cell} {mu : List Dt}
def Bs.keepO (B : Bs) (F : Hp) (p : Addr) (o : HO) : Bs := ⟨F, upd B.H p o, B.fi⟩
theorem keep_none {B : Bs} {F : Hp} {p a : Addr} {o : HO} (h : (B.keepO F p o).H a = none) : a ≠ p ∧ B.H a = none := by
  have h : upd B.H p o a = none := h
  by_cases z : a = p
  · subst z
    rw [upd_same] at h
    cases h
  · rw [upd_ne z] at h
    exact ⟨z, h⟩
theorem DE.guard (e : DE K T B F fi sg H G mu) {p : Addr} {o : HO} (h : H p = some o) (hF : F p = none) (hB : B.H p = none) (h1 : ∀ (i : Nat) (n : Dt), G[i]? = some (.own n) → sg[i]? ≠ some (some (.ref p))) (h2 : ∀ j : Nat, fi[j]? ≠ some p) (hT : p ∉ T) : DE K T (B.keepO F p o) F fi sg H G mu where
  sub := e.sub
  tab := e.tab
  len := e.len
  lenm := e.lenm
  slot := e.slot
  own := fun i m hi => by
    obtain ⟨q, g1, g2, g3, g4⟩ := e.own i m hi
    refine ⟨q, g1, g2, g3, ?_⟩
    show upd B.H p o q = none
    have hq : q ≠ p := fun z => h1 i m hi (by rw [← z]; exact g1)
    rw [upd_ne hq]
    exact g4
  obj := e.obj
  oo := e.oo
  om := e.om
  mm := e.mm
  frame := fun a u ha hf hT => by
    have ha : upd B.H p o a = some u := ha
    by_cases z : a = p
    · subst z
      rw [upd_same] at ha
      cases ha
      exact h
    · rw [upd_ne z] at ha
      exact e.frame a u ha hf hT
  fold := e.fold
  fpre := fun a ha => by
    rcases e.fpre a ha with z | z
    · exact .inl z
    · refine .inr ?_
      show upd B.H p o a = none
      have hap : a ≠ p := fun y => by
        obtain ⟨j, hj, hj2⟩ := List.mem_iff_getElem.mp ha
        exact h2 j (by rw [List.getElem?_eq_getElem hj, hj2, y])
      rw [upd_ne hap]
      exact z
  fnew := fun a u hu => .inl hu
theorem DE.unguard {F0 : Hp} {p : Addr} {o : HO} {B : Bs} {F' : Hp} {fi' : List Addr} {sg' : L2.St} {H' : Hp} {G' : List Cell} {mu' : List Dt} (e : DE K T (B.keepO F0 p o) F' fi' sg' H' G' mu') (hB : B.H p = none) (hn : ∀ (a : Addr) (u : HO), F0 a = some u → B.F a = some u ∨ B.H a = none) : DE K T B F' fi' sg' H' G' mu' where
  sub := e.sub
  tab := e.tab
  len := e.len
  lenm := e.lenm
  slot := e.slot
  own := fun i m hi => by
    obtain ⟨q, g1, g2, g3, g4⟩ := e.own i m hi
    exact ⟨q, g1, g2, g3, (keep_none g4).2⟩
  obj := e.obj
  oo := e.oo
  om := e.om
  mm := e.mm
  frame := fun a u ha hf hT => by
    by_cases z : a = p
    · subst z
      rw [hB] at ha
      cases ha
    · exact e.frame a u (by show upd B.H p o a = some u; rw [upd_ne z]; exact ha) hf hT
  fold := e.fold
  fpre := fun a ha => by
    rcases e.fpre a ha with z | z
    · exact .inl z
    · exact .inr (keep_none z).2
  fnew := fun a u hu => by
    rcases e.fnew a u hu with z | z
    · exact hn a u z
    · exact .inr (keep_none z).2
/-- an object that nobody here knows is changed -/
theorem DE.touchO (e : DE K T B F fi sg H G mu) {p : Addr} (o : HO) (hF : F p = none) (hB : B.H p = none) (h1 : ∀ (i : Nat) (n : Dt), G[i]? = some (.own n) → sg[i]? ≠ some (some (.ref p))) (h2 : ∀ j : Nat, fi[j]? ≠ some p) (hT : p ∉ T) : DE K T B F fi sg (upd H p o) G mu where
  sub := fun a u q => by
    rw [upd_ne (ne_of_none q hF)]
    exact e.sub a u q
  tab := fun q hq => by
    obtain ⟨g1, ps, g2, g3⟩ := e.tab q hq
    have hqp : q ≠ p := fun z => hT (by rw [← z]; exact hq)
    exact ⟨g1, ps, by rw [upd_ne hqp]; exact g2, g3⟩
  len := e.len
  lenm := e.lenm
  slot := e.slot
  own := fun i m hi => by
    obtain ⟨q, g1, g2, g3, g4⟩ := e.own i m hi
    have hq : q ≠ p := fun z => h1 i m hi (by rw [← z]; exact g1)
    exact ⟨q, g1, g2, g3.mono (Sub.refl F) (List.prefix_refl _) (upd_ne hq), g4⟩
  obj := fun j a m hj hm => by
    obtain ⟨g1, g2⟩ := e.obj j a m hj hm
    have ha : a ≠ p := fun z => h2 j (by rw [← z]; exact hj)
    exact ⟨g1, g2.mono (Sub.refl F) (List.prefix_refl _) (upd_ne ha)⟩
  oo := e.oo
  om := e.om
  mm := e.mm
  frame := fun a u ha hf hT2 => by
    rw [upd_ne (ne_of_none ha hB)]
    exact e.frame a u ha hf hT2
  fold := e.fold
  fpre := e.fpre
  fnew := e.fnew
end
section
variable {T : Tbs} {X : Cx} {W : WX} {G : List Cell} {mu mu1 mu2 mu3 : List Dt} {a b e o kx vx zx tg : Expr} {r r1 r2 : Res} {d z : Dt} {pos pos' p apos cpos tpos : Pos} {κ : Type} {t : κ → Dt} [DecidableEq κ]
/-- {k: v} -/
theorem ev_dict1 (kt : KeyT κ t) {k : κ} (hu : X.A.units + 9 < cLine) (hk : EvD T X G mu kx (.dat (t k)) mu1) (hv : EvD T X G mu1 vx (.dat d) mu2) : EvD T X G mu (.Dict [some kx] [vx] pos) (.new (dicN t [(k, d)])) mu2 := by
  refine pe_imp (Dn.pe_nnew1 hu hk hv) fun sg H Q ⟨B, F, fi, e, q⟩ p od0 hp g0 => ?_
  obtain ⟨h1, h2, h3, h4, h5⟩ := e.put hp (Dn.ObjN p od0)
  have hpT : p ∉ T := fun z => by
    obtain ⟨_, ps, g, _⟩ := e.tab p z
    rw [hp] at g
    cases g
  have hpB : p ∉ B.fi := fun z => by
    obtain ⟨j, hj, hj2⟩ := List.mem_iff_getElem.mp (e.fold p z)
    exact h4 j (by rw [List.getElem?_eq_getElem hj, hj2])
  have eg := h1.guard upd_same h2 h5 h3 h4 hpT
  refine ⟨_, F, fi, eg, fun y F1 fi1 H1 s1 p1 e1 k1 => ⟨_, F1, fi1, e1, fun v F2 fi2 H2 s2 p2 e2 k2 => ?_⟩⟩
  obtain ⟨b, rfl⟩ := key_ref kt k1
  have hH2 : H2 p = some (Dn.ObjN p od0) := e2.frame p _ upd_same hpB hpT
  have k1' : Rp X.K F2 fi2 (.ref b) (t k) := Rp.mono s2 p2 k1
  have e3 : DE X.K T B F2 fi2 sg H2 G mu2 := e2.unguard h5 e.fnew
  have hF2 : F2 p = none := by
    cases hf : F2 p with
    | none => rfl
    | some u =>
      rcases e2.fnew p u hf with z | z
      · have z : F p = some u := z
        rw [h2] at z
        cases z
      · exact absurd rfl (keep_none z).1
  have own2 : ∀ (i : Nat) (n : Dt), G[i]? = some (.own n) → sg[i]? ≠ some (some (.ref p)) := h3
  have fi2n : ∀ j : Nat, fi2[j]? ≠ some p := fun j z => by
    rcases e2.fpre p (List.mem_of_getElem? z) with y | y
    · exact hpB y
    · exact (keep_none y).1 rfl
  refine ⟨nkey (t k), b, hH2, rfl, Rp.kis e2.sub k1' (kt.ok k), (nkey_dep 8 _ (kt.ok k)).1, (nkey_dep 8 _ (kt.ok k)).2, fun od g => ?_⟩
  exact q _ F2 fi2 _ (s1.trans s2) (p1.trans p2) (e3.touchO _ hF2 h5 own2 fi2n hpT) ⟨p, rfl, hF2, ob_ofN kt g (.cons ⟨rfl, k1', k2⟩ .nil), own2, fi2n, h5⟩
end
/-! ### a shared dict -/
section
variable {K : PySem.W.Frag} {T : Tbs} {B : Bs} {F : Hp} {fi : List Addr} {sg : L2.St} {H : Hp} {G : List Cell} {mu : List Dt}
theorem DE.chgPO (e : DE K T B F fi sg H G mu) {j : Nat} {a : Addr} {m0 m1 : Dt} {u' : HO} (hf : fi[j]? = some a) (hm : mu[j]? = some m0) (hr : Ob K F fi (upd H a u') a m1) : DE K T B F fi sg (upd H a u') G (mu.set j m1) := by
  obtain ⟨h1, h2⟩ := e.obj j a _ hf hm
  obtain ⟨o5, h3, h6⟩ := h2.some
  have ha : a ∈ fi := List.mem_of_getElem? hf
  have hlt : j < mu.length := (List.getElem?_eq_some_iff.mp hm).1
  have pT : a ∉ T := e.tabne h3 h6
  refine ⟨fun b o q => ?_, fun p hp => ?_, e.len, by rw [List.length_set]; exact e.lenm, e.slot, fun i m q => ?_, fun k b m q y => ?_, e.oo, e.om, e.mm, fun b o q1 q2 q3 => ?_, e.fold, e.fpre, e.fnew⟩
  · rw [upd_ne (fun z => by rw [z, h1] at q; cases q)]
    exact e.sub b o q
  · obtain ⟨g1, ps, g3, g4⟩ := e.tab p hp
    have hpa : p ≠ a := fun z => pT (by rw [← z]; exact hp)
    exact ⟨g1, ps, by rw [upd_ne hpa]; exact g3, g4⟩
  · obtain ⟨p, a', b, c, d⟩ := e.own i m q
    have z : p ≠ a := fun z => e.om i m p j q a' (by rw [z]; exact hf)
    exact ⟨p, a', b, c.mono (Sub.refl F) (List.prefix_refl _) (upd_ne z), d⟩
  · by_cases hk : k = j
    · subst hk
      rw [List.getElem?_set_self hlt] at y
      cases y
      rw [hf] at q
      cases q
      exact ⟨h1, hr⟩
    · rw [List.getElem?_set_ne (Ne.symm hk)] at y
      obtain ⟨b', c⟩ := e.obj k b m q y
      have z : b ≠ a := fun z => by
        obtain ⟨hj1, e1⟩ := List.getElem?_eq_some_iff.mp hf
        obtain ⟨hk1, e2⟩ := List.getElem?_eq_some_iff.mp q
        exact hk ((List.getElem_inj e.mm).mp (by rw [e1, e2, z]))
      exact ⟨b', c.mono (Sub.refl F) (List.prefix_refl _) (upd_ne z)⟩
  · have z : b ≠ a := fun z => by
      rcases e.fpre a ha with y | y
      · exact q2 (by rw [z]; exact y)
      · rw [z, y] at q1
        cases q1
    rw [upd_ne z]
    exact e.frame b o q1 q2 q3
end
section
variable {T : Tbs} {X : Cx} {W : WX} {G : List Cell} {mu mu1 mu2 mu3 : List Dt} {a b e o kx vx zx tg : Expr} {r r1 r2 : Res} {d z : Dt} {pos pos' p apos cpos tpos : Pos} {κ : Type} {t : κ → Dt} [DecidableEq κ] {j : Nat}
/-- d[k], d shared -/
theorem ev_ngetP (kt : KeyT κ t) {kvs : List (κ × Dt)} {k : κ} (hu : X.A.units + 9 < cLine) (ho : EvD T X G mu o (.dat (.ptr j)) mu1) (hk : EvD T X G mu1 kx (.dat (t k)) mu2) (hm : mu2[j]? = some (dicN t kvs)) (hd : getA kvs k = some d) (hs : NoSl kx := by exact fun _ _ => rfl) :
    EvD T X G mu (.Subscript o kx pos) (.dat d) mu2 := by
  refine pe_imp (Dn.pe_nget hu ho hk hs) fun sg H Q ⟨B, F, fi, e, q⟩ => ⟨B, F, fi, e, fun x F1 fi1 H1 s1 p1 e1 h1 => ⟨B, F1, fi1, e1, fun y F3 fi3 H3 s3 p3 e3 h3 => ?_⟩⟩
  cases h1 with
  | ptr hf =>
    obtain ⟨_, ho⟩ := e3.obj j _ _ (pre_get p3 hf) hm
    obtain ⟨xs, g, en⟩ := ob_viewN kt e3.sub ho
    obtain ⟨b, rfl⟩ := key_ref kt h3
    obtain ⟨v, hv, rv⟩ := (en.at kt k).1 d hd
    exact ⟨_, xs, nkey (t k), b, v, rfl, g, rfl, Rp.kis e3.sub h3 (kt.ok k), (nkey_dep 8 _ (kt.ok k)).1, hv, q v F3 fi3 H3 (s1.trans s3) (p1.trans p3) e3 rv⟩
/-- k not in d, d shared -/
theorem et_nnotinP (kt : KeyT κ t) {kvs : List (κ × Dt)} {k : κ} (hu : X.A.units + 9 < cLine) (ha : EvD T X G mu a r1 mu1) (hb : EvD T X G mu1 b (.dat (.ptr j)) mu2) (hm : mu2[j]? = some (dicN t kvs)) (l1 : look G r1 = some (t k) := by rfl) (hmk : behindInMarks .NotIn b = false := by rfl) :
    EvT T X G mu (.Compare a [.NotIn] [b] pos) (!(getA kvs k).isSome) mu2 :=
  et_cmp (op_nnotin hu) (fun B F fi sg H v u Q e h1 h2 q => by
    have h2 : Rp X.K F fi u (.ptr j) := h2
    cases h2 with
    | ptr hf =>
      obtain ⟨_, ho⟩ := e.obj j _ _ hf hm
      obtain ⟨xs, g, en⟩ := ob_viewN kt e.sub ho
      obtain ⟨ds, ek⟩ := kt.tup k
      have hv : Rp X.K F fi v (t k) := by
        rcases e.viewH h1 l1 with z | ⟨_, _, z⟩
        · exact z
        · rw [ek] at z; exact z.elim
      obtain ⟨b, rfl⟩ := key_ref kt hv
      refine ⟨_, xs, nkey (t k), b, rfl, g, rfl, Rp.kis e.sub hv (kt.ok k), (nkey_dep 8 _ (kt.ok k)).1, ?_⟩
      rw [(en.at kt k).2]
      exact q _ F fi H (Sub.refl F) (List.prefix_refl _) e (.bl _)) hmk ha hb
/-- d[k] = e, d shared -/
theorem sd_nputP (kt : KeyT κ t) {kvs : List (κ × Dt)} {k : κ} (hu : X.A.units + 9 < cLine) (he : EvD T X G mu e (.dat d) mu1) (ho : EvD T X G mu1 o (.dat (.ptr j)) mu2) (hk : EvD T X G mu2 kx (.dat (t k)) mu3) (hm : mu3[j]? = some (dicN t kvs)) (hl : kvs.length < 1000000)
    (hs : swapsWith e (some (.Subscript o kx pos')) pos.line X.env = pure false := by rfl) : SD T X W G mu (.Assign [.Subscript o kx pos'] e pos) (.nx G (mu3.set j (dicN t (putA kvs k d)))) := by
  refine ps_imp (Dn.ps_nput hu ho hk he hs) fun D sg H ⟨B, F, fi, e0, q⟩ => ⟨B, F, fi, e0, fun v F1 fi1 H1 s1 p1 e1 h1 => ?_⟩
  refine ⟨B, F1, fi1, e1, fun x F2 fi2 H2 s2 p2 e2 h2 => ⟨B, F2, fi2, e2, fun y F3 fi3 H3 s3 p3 e3 h3 => ?_⟩⟩
  cases h2 with
  | ptr hf =>
    have hf3 := pre_get p3 hf
    obtain ⟨_, ho⟩ := e3.obj j _ _ hf3 hm
    obtain ⟨xs, g6, en⟩ := ob_viewN kt e3.sub ho
    have hv : Rp X.K F3 fi3 v d := Rp.mono (s2.trans s3) (p2.trans p3) h1
    obtain ⟨b, rfl⟩ := key_ref kt h3
    have hlen : xs.length < sizeLine := by
      have := Dn.rel_len en
      rw [sizeLine_eq]
      omega
    obtain ⟨d1, d2⟩ := nkey_dep 8 _ (kt.ok k)
    exact ⟨_, xs, nkey (t k), b, rfl, g6, rfl, Rp.kis e3.sub h3 (kt.ok k), d1, d2, hlen, fun od g7 => q F3 fi3 _ _ (s1.trans (s2.trans s3)) (p1.trans (p2.trans p3)) (e3.chgPO hf3 hm (ob_ofN kt g7 (en.put kt k h3 hv)))⟩
end
end Dl

set_option Elab.async false
set_option linter.all false
set_option maxRecDepth 100000
set_option maxHeartbeats 4000000
/-! DlSet2: sorted(set(xs)) of a long list of ints, few of them different. -/
namespace Dl
open PySem PySem.Spec PyProof.Rows L2
/-- how many different ones -/
def dn (ns : List Int) : Nat := (ssetI ns).length
theorem insI_length {x : Int} : ∀ {l : List Int}, l.Pairwise (· < ·) → x ∉ l → (insI x l).length = l.length + 1
  | [], _, _ => rfl
  | y :: r, h, hx => by
    obtain ⟨h1, h2⟩ := List.pairwise_cons.mp h
    unfold insI
    split
    · rfl
    · split
      · rename_i e
        exact absurd (by rw [e]; exact List.mem_cons_self) hx
      · rw [List.length_cons, List.length_cons, insI_length h2 fun z => hx (List.mem_cons_of_mem _ z)]
theorem dn_snoc (l : List Int) (x : Int) : dn (l ++ [x]) = if x ∈ l then dn l else dn l + 1 := by
  unfold dn
  by_cases h : x ∈ l
  · rw [if_pos h]
    congr 1
    refine lt_ext (ssetI_ord _) (ssetI_ord _) fun k => ?_
    rw [mem_ssetI, mem_ssetI, List.mem_append, List.mem_singleton]
    exact ⟨fun q => q.elim id fun e => e ▸ h, .inl⟩
  · rw [if_neg h, ← insI_length (ssetI_ord l) fun z => h (mem_ssetI.mp z)]
    congr 1
    refine lt_ext (ssetI_ord _) (insI_ord (ssetI_ord _)) fun k => ?_
    rw [mem_ssetI, mem_insI, mem_ssetI, List.mem_append, List.mem_singleton]
    exact Or.comm
theorem dn_take (ns : List Int) : ∀ i, dn (ns.take i) ≤ (ssetI ns).length := fun i => by
  have k : ∀ (a b : List Int), dn a ≤ dn (a ++ b) := by
    intro a b
    induction b generalizing a with
    | nil => rw [List.append_nil]; exact Nat.le_refl _
    | cons x b ih =>
      have h1 := ih (a ++ [x])
      rw [List.append_assoc] at h1
      have h2 := dn_snoc a x
      have h3 : dn a ≤ dn (a ++ [x]) := by
        rw [h2]
        split <;> omega
      exact Nat.le_trans h3 h1
  have := k (ns.take i) (ns.drop i)
  rw [List.take_append_drop] at this
  exact this
theorem dn_succ {ns : List Int} {i : Nat} {x : Int} (h : ns[i]? = some x) : dn (ns.take (i + 1)) = if memB ns i x = true then dn (ns.take i) else dn (ns.take i) + 1 := by
  rw [List.take_add_one, h, Option.toList_some, dn_snoc]
  have e : x ∈ ns.take i ↔ memB ns i x = true := by
    unfold memB
    rw [List.any_eq_true]
    exact ⟨fun z => ⟨x, z, beq_iff_eq.mpr rfl⟩, fun ⟨y, hy, q⟩ => by rw [← beq_iff_eq.mp q]; exact hy⟩
  by_cases z : x ∈ ns.take i
  · rw [if_pos z, if_pos (e.mp z)]
  · rw [if_neg z, if_neg fun y => z (e.mpr y)]
section
variable {P : Program} {w : World} {A : Around} {E : Value → Shared → Prop} {s : Shared}
/-- set.update's loop over ints, few of them different -/
theorem set_update_few {I : Addr} {fp wr : List Addr} {G : Array GenState → Array GenState → Prop} {n : Nat} {Pv : Nat → Value → Prop} {St : Nat → Shared → Prop} {R : Result → Shared → Prop}
    (W : WalksS P w A.in1 I fp wr G n Pv St) (S : Addr) (hSf : S ∉ fp) (ns : List Int) (hn : n = ns.length) (hval : ∀ i v, Pv i v → ∃ x t, ns[i]? = some x ∧ v = .int x t) (hb : (ssetI ns).length < 64) :
    ∀ (k i : Nat) (s : Shared), n - i = k → i ≤ n → St i s → (∃ c, c = dn (ns.take i) ∧ SetR w s.heap S (memB ns i) c) →
      (∀ s', Moved (S :: wr) G s s' → (∃ c, c = dn (ns.take n) ∧ SetR w s'.heap S (memB ns n) c) → R (.ok (.ret .none)) s') →
      codeAny (model P w) A (.builtin "set.update.loop" ⟨[.ref S, .ref I], []⟩) R s := by
  have hSw : S ∉ wr := fun h => hSf (W.sub _ h)
  have hsub : ∀ b ∈ wr, b ∈ S :: wr := fun b hb => List.mem_cons_of_mem _ hb
  intro k
  induction k with
  | zero =>
    intro i s hk hi hst ⟨c, hc, hS⟩ hR
    have hin : i = n := by omega
    subst hin
    refine codeAny_builtin F.entry_set_update_loop ?_
    rw [Around.under_plainId F.plain_set_update_loop _]
    show wpAny _ A.in1 (pyNext (.ref I) >>= _) _ _ s
    refine wpAny_bind (W.done s _ _ hst fun s' hm => ?_)
    show wpAny _ A.in1 (ret Value.none) _ _ s'
    exact wpAny_pure (hR s' (hm.mono hsub) ⟨c, hc, hS.at fun o e => hm.heap S o hSw e⟩)
  | succ k ih =>
    intro i s hk hi hst ⟨c, hc, hS⟩ hR
    have hlt : i < n := by omega
    refine codeAny_builtin F.entry_set_update_loop ?_
    rw [Around.under_plainId F.plain_set_update_loop _]
    show wpAny _ A.in1 (pyNext (.ref I) >>= _) _ _ s
    refine wpAny_bind (W.item i s _ _ hlt hst fun v s' hP hst' hm => ?_)
    obtain ⟨x, t, hx, rfl⟩ := hval i v hP
    have hS' : SetR w s'.heap S (memB ns i) c := hS.at fun o e => hm.heap S o hSw e
    show wpAny _ A.in1 (holding [Value.int x t] (setAdd S (.int x t)) >>= _) _ _ s'
    refine wpAny_bind (wpAny_holding ?_)
    unfold setAdd
    refine wpAny_holding ?_
    refine wpAny_bind ((intKind P w).pyHash (k := x) (intKind_is P w x t) ?_)
    have hcd : dn (ns.take i) ≤ (ssetI ns).length := dn_take ns i
    refine setR_add_hashed (s := { s' with toks := s'.toks + 1 }) hS' (by unfold scanBound; omega) fun h' hsb hS2 => ?_
    have hSi : ∃ c', c' = dn (ns.take (i + 1)) ∧ SetR w h' S (memB ns (i + 1)) c' := by
      refine ⟨_, ?_, setR_keep hS2 (fun o e => e) fun y => (memB_succ hx y).symm⟩
      rw [hc, dn_succ hx] <;> rfl
    refine wpAny_pure ⟨plainId_quiet F.plain_set_update_loop _, ih (i + 1) _ (by omega) hlt (W.frame _ s' _ _ hst' (Nat.le_succ _) fun b hb o e => ?_) hSi fun s'' hm'' hS'' => ?_⟩
    · rw [hsb.2 b (fun h : b = S => hSf (by rw [← h]; exact hb))]; exact e
    · refine hR s'' (Moved.trans W.gtrans ((hm.mono hsub).then_heap (Nat.le_succ _) fun b o hb e => ?_) hm'') hS''
      rw [hsb.2 b (fun h : b = S => hb (by rw [h]; exact List.mem_cons_self))]; exact e
set_option maxHeartbeats 3200000 in
/-- set(xs), few of them different -/
theorem call_set_few {l : Addr} {items : Array Value} (ns : List Int) {Q : Value → Shared → Prop} (hh : A.handled = none) (hl : s.heap.IsList l items) (hi : PyProof.Rows.IntsAre items.toList ns) (hb : (ssetI ns).length < 64)
    (h : ∀ (h' : Heap) (tk c : Nat), c = (ssetI ns).length → SetR w h' s.heap.objs.size (memB ns ns.length) c → (∀ b o, s.heap.get? b = some o → h'.get? b = some o) → Q (.ref s.heap.objs.size) { s with heap := h', toks := tk }) :
    wpAny (model P w) A (call (.type "set") [.ref l]) Q E s := by
  have hisz : items.size = ns.length := by
    have q := PyProof.Rows.IntsAre.length hi
    rw [Array.length_toList] at q
    exact q
  obtain ⟨c, tl, hmro⟩ := F.called_set.mro
  have hmade := F.called_set.made
  have hsub := F.called_set.sub
  refine wpAny_call (codeAny_of_tree ?_)
  show wpAny _ _ (callAny (.type "set") _) _ _ _
  refine wpAny_pure ⟨Code.quiet_builtin _ (by decide +kernel), codeAny_builtin F.entry_type_call ?_⟩
  rw [Around.under_plain (weight_type_call_type "set" [.ref l] []) rfl]
  have h1 := F.called_set.notType
  have h2 := F.called_set.canCreate
  have hct := F.typeCall_set_1 (.ref l)
  repeat (any_goals (first | assumption | wp_step))
  refine codeAny_mono (code_set_led1 (.ref l) (E := E) (Q₁ := fun obj s₁ => obj = .ref s.heap.objs.size ∧ s₁ = { s with heap := s.heap.push { cls := .type "set", dict := none, data := .set #[] 0 (.fresh 0 0 (!w.params.followText "set-order")) } }) ⟨rfl, rfl⟩) fun r s₁ hr => ?_
  cases r with
  | error e => exact hr
  | ok fl =>
    cases fl with
    | ret obj =>
      obtain ⟨rfl, rfl⟩ := hr
      have hS : (s.heap.push { cls := .type "set", dict := none, data := .set #[] 0 (.fresh 0 0 (!w.params.followText "set-order")) }).get? s.heap.objs.size = some { cls := .type "set", dict := none, data := .set #[] 0 (.fresh 0 0 (!w.params.followText "set-order")) } := Heap.get?_push_size _ rfl
      have hT : Shared.TypeIs { s with heap := s.heap.push { cls := .type "set", dict := none, data := .set #[] 0 (.fresh 0 0 (!w.params.followText "set-order")) } } (.ref s.heap.objs.size) "set" := ⟨_, hS, rfl⟩
      have hli := F.called_set.init.lookup
      have hbi := F.called_set.init.bind (.ref s.heap.objs.size)
      repeat (any_goals (first | assumption | wp_step))
      refine codeAny_mono (codeAny_call_builtin (R := wants (fun r s₂ => r = .none ∧ ∃ h' tk c, s₂ = { s with heap := h', toks := tk } ∧ c = (ssetI ns).length ∧ SetR w h' s.heap.objs.size (memB ns ns.length) c ∧ (∀ b o, s.heap.get? b = some o → h'.get? b = some o)) E)
        F.called_set.init.plain F.entry_set_init (check_set_init_1 hT ?_)) fun r₂ s₂ hr₂ => ?_
      · obtain ⟨ol, hol, hcl, nl, hdl⟩ := hl
        obtain ⟨ocls, odict, odata, oslots⟩ := ol
        simp only at hcl hdl
        subst hcl; subst hdl
        have hol' : (s.heap.push { cls := .type "set", dict := none, data := .set #[] 0 (.fresh 0 0 (!w.params.followText "set-order")) }).get? l = some { cls := .type "list", dict := odict, data := .seq items nl, slots := oslots } := Heap.get?_push_of_some _ hol
        have hsls := F.sub_list_set
        have hslf := F.sub_list_frozenset
        have hne : (Value.type "list" == Value.type "dict") = false := by decide
        have hl1 : (s.heap.push { cls := .type "set", dict := none, data := .set #[] 0 (.fresh 0 0 (!w.params.followText "set-order")) }).IsList l items := ⟨_, hol', rfl, nl, rfl⟩
        unfold Builtin.«set.__init__» noKeywords Builtin.Frozenset.updateFrom
        generalize hPI : pyIter = PI
        wp_walk
        subst hPI
        refine wpAny_pyIter_list hl1 ?_
        refine wpAny_bind (wpAny_runValue ?_)
        have hlS : l < s.heap.objs.size := Heap.lt_size hol
        have hh3 : A.in1.in1.in1.handled = none := by simp [hh]
        have hneI : l ≠ (s.heap.push { cls := .type "set", dict := none, data := .set #[] 0 (.fresh 0 0 (!w.params.followText "set-order")) }).objs.size := by
          rw [Heap.size_push]; exact Nat.ne_of_lt (Nat.lt_succ_of_lt hlS)
        have hSf : s.heap.objs.size ∉ [(s.heap.push { cls := .type "set", dict := none, data := .set #[] 0 (.fresh 0 0 (!w.params.followText "set-order")) }).objs.size, l] := by
          rw [Heap.size_push]; simp only [List.mem_cons, List.mem_singleton, List.not_mem_nil, or_false, not_or]
          exact ⟨Nat.ne_of_lt (Nat.lt_succ_self _), Nat.ne_of_gt hlS⟩
        have hval : ∀ (i : Nat) (v : Value), items[i]? = some v → ∃ x t, ns[i]? = some x ∧ v = .int x t := fun i v hv => by
          obtain ⟨t, e⟩ := PyProof.Rows.IntsAre.int_at hi i v (by rw [Array.getElem?_toList]; exact hv)
          have hil : i < ns.length := by rw [← hisz]; exact (Array.getElem?_eq_some_iff.mp hv).1
          refine ⟨ns.getD i 0, t, ?_, e⟩
          rw [List.getD_eq_getElem?_getD, List.getElem?_eq_getElem hil] <;> rfl
        refine set_update_few ((Walks.list hh3 _ l hneI items).toS) s.heap.objs.size hSf ns hisz hval hb (items.size - 0) 0 _ (by omega) (Nat.zero_le _)
          ⟨⟨_, Heap.get?_push_size _ rfl, rfl, rfl⟩, (hl1.push _)⟩ ?hS0 ?hR
        case hS0 =>
          refine ⟨0, rfl, ?_⟩
          have q : SetR w (s.heap.push { cls := .type "set", dict := none, data := .set #[] 0 (.fresh 0 0 (!w.params.followText "set-order")) }) s.heap.objs.size (fun _ => false) 0 := setR_fresh w
          exact setR_keep q (fun o e => Heap.get?_push_of_some _ e) fun x => by
            unfold memB
            rw [List.take_zero, List.any_nil]
        case hR =>
          intro s' hm ⟨c, hc, hS'⟩
          obtain ⟨h', g2, d', tk', os'⟩ := s'
          have eg : g2 = s.gens := hm.gens
          have ed : d' = s.drawn := hm.drawn
          have eo : os' = s.os := hm.os
          subst eg; subst ed; subst eo
          show wpAny _ _ _ _ _ _
          refine wpAny_pure ?_
          show wpAny _ _ (ret Value.none) _ _ _
          rw [hisz] at hc hS'
          have hc : c = (ssetI ns).length := by rw [hc, List.take_length] <;> rfl
          refine wpAny_pure ⟨rfl, h', tk', c, rfl, hc, hS', fun b o e => ?_⟩
          have hbl := Heap.lt_size e
          have hb1 : b ≠ s.heap.objs.size := Nat.ne_of_lt hbl
          have hb2 : b ≠ (s.heap.push { cls := .type "set", dict := none, data := .set #[] 0 (.fresh 0 0 (!w.params.followText "set-order")) }).objs.size := by
            rw [Heap.size_push]; exact Nat.ne_of_lt (Nat.lt_succ_of_lt hbl)
          exact hm.heap b o (by simp only [List.mem_cons, List.mem_singleton, List.not_mem_nil, or_false, not_or]; exact ⟨hb1, hb2⟩) (Heap.get?_push_of_some _ (Heap.get?_push_of_some _ e))
      · cases r₂ with
        | error e => exact hr₂
        | ok fl₂ =>
          cases fl₂ with
          | ret r =>
            obtain ⟨rfl, h', tk, c, rfl, hc, hS', hk'⟩ := hr₂
            repeat (any_goals (first | assumption | wp_step))
            exact h _ _ _ hc hS' hk'
          | _ => exact hr₂.elim
    | _ => exact hr.elim
end
section
variable {T : Tbs} {X : Cx} {G : List Cell} {mu mu1 mu2 : List Dt} {r r1 r2 res : Res} {rs : List Res} {e e1 e2 : Expr} {es : List Expr} {pos p p2 q1 q2 : Pos} {d : Dt} {ds : List Dt}
/-- sorted(set(e)), few different -/
def tSortSetF (K : PySem.W.Frag) (ta : TE) : TE := fun σ H Q => ta σ H fun x H1 => ∃ (l : Addr) (ns : List Int), x = V.ref l ∧ SqL K H1 l (ns.map V.int) ∧ (ssetI ns).length < 64 ∧ ∀ p, H1 p = none → Q (.ref p) (upd H1 p (.lst ((ssetI ns).map V.int)))
theorem pe_sortsetF {a : Expr} {ta : TE} {p p2 q pos : Pos} (hc : X.calm = true) (hg : Gl X "sorted") (hm : X.mg "sorted" = none) (hg2 : Gl X "set") (hm2 : X.mg "set" = none) (ha : PE X a ta)
    (na : starEach [a] X.env = (false, eval a X.env) :: starEach [] X.env := by rfl) : PE X (.Call (.Name "sorted" p) [.Call (.Name "set" p2) [a] [] q] [] pos) (tSortSetF X.K ta) := by
  refine ⟨fun pins s σ H Q I h => ?_⟩
  refine Call_ (ld_blt I hg hm PyProof.Rows.boot_sorted ?_)
  refine PyProof.Rows.callWith_builtin1 (PyProof.Rows.args_cons ?_ rfl) rfl rfl
  refine Call_ (ld_blt I hg2 hm2 PyProof.Rows.boot_set ?_)
  refine PyProof.Rows.callWith_type1 (PyProof.Rows.args_cons (thn (ha.run pins s σ H _ I h) fun v s1 ⟨x, H1, I1, r1, q1⟩ => PyProof.Rows.args_nil ?_) na) na rfl
  obtain ⟨l, ns, rfl, hq, hfw, q1⟩ := q1
  cases r1
  obtain ⟨its, r, pl, hz⟩ := I1.list hq
  refine call_set_few ns (I1.ok.hd hc) pl.isList (by simpa using r.ints) hfw fun h' tk c hcn hS hk => ?_
  refine PyProof.Rows.args_nil ?_
  have I2 : Inv X pins σ H1 { s1 with heap := h', toks := tk } := I1.kept hk
  refine sorted_set hS (I2.ok.hd hc) (by omega) fun s' p out c' ms k g o hp hgl hi hs hmem hl => ?_
  have hlen : (ms.map V.int).length ≤ sizeLine := by rw [List.length_map, hl, sizeLine_eq]; omega
  have hn : H1 p = none := I2.hok.fresh hp
  have J : Inv X pins σ (upd H1 p (.lst (ms.map V.int))) s' := I2.call' (ch := []) o (Un.laid k hp hn) (I2.hok.laid k hp ⟨hlen, out.toList, c', vals_of_ints hi, hgl⟩) (by rw [g]; exact I2.bare) (fun _ z => nomatch z)
  have em : ms = ssetI ns := lt_ext hs (ssetI_ord ns) fun k => by
    rw [hmem k, mem_ssetI]
    unfold memB
    rw [List.take_length, List.any_eq_true]
    constructor
    · rintro ⟨x, hx, e⟩
      rw [← beq_iff_eq.mp e]
      exact hx
    · intro hx
      exact ⟨k, hx, beq_iff_eq.mpr rfl⟩
  rw [em] at J
  exact ⟨.ref p, _, J, rfl, q1 p hn⟩
theorem ev_sortsetF {ns : List Int} (hc : X.calm = true) (h : EvD T X G mu e r mu1) (hm : X.mg "sorted" = none) (hm2 : X.mg "set" = none) (h64 : (ssetI ns).length < 64) (l : look G r = some (.lst (ns.map Dt.int))) (hg : Gl X "sorted" := by rfl) (hg2 : Gl X "set" := by rfl) (he : starEach [e] X.env = (false, eval e X.env) :: starEach [] X.env := by rfl) :
    EvD T X G mu (.Call (.Name "sorted" p) [.Call (.Name "set" p2) [e] [] q1] [] pos) (.new (.lst ((ssetI ns).map Dt.int))) mu1 := by
  refine pe_imp (pe_sortsetF hc hg hm hg2 hm2 h he) fun sg H Q ⟨B, F, fi, e, q⟩ => ⟨B, F, fi, e, fun v F1 fi1 H1 s1 p1 e1 h1 => ?_⟩
  obtain ⟨a, vs, rfl, f2, m⟩ := (e1.view h1 l).lst e1.sub
  rw [m.ints] at f2
  refine ⟨a, ns, rfl, SqL.of f2, h64, fun p hp => ?_⟩
  -- a new list that was given to set is nobody's from here on
  obtain ⟨F2, s2, e2, h2⟩ := e1.hold h1
  obtain ⟨e3, k3⟩ := e2.newL hp (RpL.of_ints (ssetI ns))
  exact q _ F2 fi1 _ (s1.trans s2) p1 e3 k3
end
end Dl

set_option Elab.async false
set_option linter.all false
set_option maxRecDepth 100000
set_option maxHeartbeats 4000000
namespace K63
open PySem PySem.Spec PyProof.Rows L2 Dl
theorem foldl_flat {α β : Type} (f : α → List β) : ∀ (l : List α), l.foldl (fun a x => a ++ f x) [] = l.flatMap f := by
  have k : ∀ (l : List α) (a : List β), l.foldl (fun a x => a ++ f x) a = a ++ l.flatMap f := by
    intro l
    induction l with
    | nil => intro a; simp
    | cons x l ih => intro a; rw [List.foldl_cons, ih, List.flatMap_cons, List.append_assoc]
  intro l
  rw [k, List.nil_append]
abbrev Pr : Type := Int × Int
def tP (p : Pr) : Dt := .tup [.int p.1, .int p.2]
theorem ktP : KeyT Pr tP := ⟨fun _ => rfl, fun _ => ⟨_, rfl⟩, fun a b h => by
  have h : NestedKey.tup [.num a.1, .num a.2] = .tup [.num b.1, .num b.2] := h
  have h2 := NestedKey.tup.inj h
  have h3 := (List.cons.inj h2).1
  have h4 := (List.cons.inj (List.cons.inj h2).2).1
  exact Prod.ext (NestedKey.num.inj h3) (NestedKey.num.inj h4)⟩
/-! no shared objects in it -/
theorem np_map {α : Type} {n : Nat} {f : α → Dt} (h : ∀ a, np n (f a) = true) (l : List α) : npL n (l.map f) = true :=
  (npL_iff _ _).mpr fun d hd => by obtain ⟨a, _, rfl⟩ := List.mem_map.mp hd; exact h a
theorem np_ints {n : Nat} (l : List Int) : np n (dInts l) = true := np_map (f := Dt.int) (fun _ => rfl) l
theorem np_R {n : Nat} (r : Reel) : np n (dR r) = true := by
  show (npL n (r.1.map dInts) && (npL n (r.2.map Dt.int) && true)) = true
  rw [np_map (fun l => np_ints l), np_map (f := Dt.int) (fun _ => rfl)] <;> rfl
theorem np_G {n : Nat} (g : Option Int) : np n (dGap g) = true := by cases g <;> rfl
theorem np_P {n : Nat} (p : Pr) : np n (tP p) = true := rfl
/-! dicts of keys -/
section
variable {κ : Type} [DecidableEq κ] {β : Type}
theorem getA_map (l : List κ) (f : κ → Dt) (k : κ) : getA (l.map fun k => (k, f k)) k = if k ∈ l then some (f k) else none := by
  induction l with
  | nil => rfl
  | cons a l ih =>
    rw [List.map_cons, getA_cons, ih]
    by_cases e : a = k
    · rw [if_pos e, if_pos (by rw [e]; exact List.mem_cons_self), e]
    · rw [if_neg e]
      by_cases h : k ∈ l
      · rw [if_pos h, if_pos (List.mem_cons_of_mem _ h)]
      · rw [if_neg h, if_neg fun z => (List.mem_cons.mp z).elim (fun y => e y.symm) h]
theorem getA_some (l : List κ) (f : κ → Dt) (k : κ) : (getA (l.map fun k => (k, f k)) k).isSome = decide (k ∈ l) := by
  rw [getA_map]
  by_cases h : k ∈ l
  · rw [if_pos h, decide_eq_true h] <;> rfl
  · rw [if_neg h, decide_eq_false h] <;> rfl
theorem getA_in {l : List κ} {f : κ → Dt} {k : κ} (h : k ∈ l) : getA (l.map fun k => (k, f k)) k = some (f k) := by rw [getA_map, if_pos h]
theorem getA_out {l : List κ} {f : κ → Dt} {k : κ} (h : k ∉ l) : (getA (l.map fun k => (k, f k)) k).isSome = false := by rw [getA_map, if_neg h] <;> rfl
theorem getA_iff {l : List κ} {f : κ → Dt} {k : κ} : (getA (l.map fun k => (k, f k)) k).isSome = true ↔ k ∈ l := by
  rw [getA_some]
  exact ⟨of_decide_eq_true, decide_eq_true⟩
theorem putA_new (kvs : List (κ × Dt)) (k : κ) (d : Dt) (h : (getA kvs k).isSome = false) : putA kvs k d = kvs ++ [(k, d)] := by
  rw [getA_any] at h
  unfold putA
  rw [h, if_neg (by decide)]
theorem getA_num (f : List (κ × Int)) (k : κ) : (getA (f.map fun p => (p.1, Dt.int p.2)) k).isSome = hasK f k ∧ (hasK f k = true → getA (f.map fun p => (p.1, Dt.int p.2)) k = some (.int (lookI f k))) := by
  induction f with
  | nil => exact ⟨rfl, fun h => (nomatch h)⟩
  | cons p f ih =>
    rw [List.map_cons, getA_cons]
    have e1 : hasK (p :: f) k = (decide (p.1 = k) || hasK f k) := rfl
    by_cases e : p.1 = k
    · have e2 : lookI (p :: f) k = p.2 := by
        unfold lookI
        rw [List.find?_cons, decide_eq_true e] <;> rfl
      rw [if_pos e, e1, decide_eq_true e, e2]
      exact ⟨rfl, fun _ => rfl⟩
    · have e2 : lookI (p :: f) k = lookI f k := by
        unfold lookI
        rw [List.find?_cons, decide_eq_false e]
      rw [if_neg e, e1, decide_eq_false e, Bool.false_or, e2]
      exact ih
end
/-! ### pairs -/
def rowP (one other : Reel) (s : Int) (bs : List Int) : List Pr := (bs.filter fun m => decide (pic one.2 s = pic other.2 m)).map fun m => (s, m)
def pairsP (one other : Reel) (as bs : List Int) : List Pr := as.flatMap fun s => rowP one other s bs
def firstP (one other : Reel) (gap : Option Int) : List Pr := pairsP one other (fromS one.1 gap) (fromS other.1 gap)
def nextP (one other : Reel) (gap : Option Int) (p : Pr) : List Pr := pairsP one other (aheadS one.1 p.1 gap) (aheadS other.1 p.2 gap)
theorem mem_pairs {one other : Reel} {as bs : List Int} {p : Pr} : p ∈ pairsP one other as bs ↔ p.1 ∈ as ∧ p.2 ∈ bs ∧ pic one.2 p.1 = pic other.2 p.2 := by
  unfold pairsP rowP
  rw [List.mem_flatMap]
  constructor
  · rintro ⟨s, hs, h⟩
    obtain ⟨m, hm, rfl⟩ := List.mem_map.mp h
    obtain ⟨h1, h2⟩ := List.mem_filter.mp hm
    exact ⟨hs, h1, of_decide_eq_true h2⟩
  · rintro ⟨h1, h2, h3⟩
    exact ⟨p.1, h1, List.mem_map.mpr ⟨p.2, List.mem_filter.mpr ⟨h2, decide_eq_true h3⟩, rfl⟩⟩
theorem row_len {one other : Reel} {s : Int} {bs : List Int} (h : bs.length ≤ 6) : (rowP one other s bs).length ≤ 6 := by
  unfold rowP
  rw [List.length_map]
  exact Nat.le_trans (List.length_filter_le _ _) h
theorem pairs_len {one other : Reel} {as bs : List Int} (ha : as.length ≤ 6) (hb : bs.length ≤ 6) : (pairsP one other as bs).length ≤ 36 := by
  unfold pairsP
  induction as with
  | nil => simp
  | cons s as ih => 
    have k : ∀ l : List Int, (l.flatMap fun s => rowP one other s bs).length ≤ l.length * 6 := by
      intro l
      induction l with
      | nil => simp
      | cons x l ih =>
        rw [List.flatMap_cons, List.length_append, List.length_cons]
        have := row_len (one := one) (other := other) (s := x) hb
        omega
    have := k (s :: as)
    omega
def pairF (one other : Reel) (bs : List Int) (l : List Pr) (d : Dt) : List Pr := match d with
  | .int s => l ++ rowP one other s bs
  | _ => l
theorem pairF_fold (one other : Reel) (as bs : List Int) : (as.map Dt.int).foldl (pairF one other bs) [] = pairsP one other as bs := by
  rw [List.foldl_map]
  exact foldl_flat _ _
def S_first : FSpec := fun ds mu o => ∃ one other : Reel, ∃ gap, ds = [dR one, dR other, dGap gap] ∧ GoodR one.1 one.2 ∧ GoodR other.1 other.2 ∧ GoodG gap ∧ o = .ret (.new (.lst ((firstP one other gap).map tP))) mu
def S_next : FSpec := fun ds mu o => ∃ one other : Reel, ∃ gap p, ds = [dR one, dR other, dGap gap, tP p] ∧ GoodR one.1 one.2 ∧ GoodR other.1 other.2 ∧ GoodG gap ∧ (0 ≤ p.1 ∧ p.1 < one.1.length) ∧ (0 ≤ p.2 ∧ p.2 < other.1.length) ∧ o = .ret (.new (.lst ((nextP one other gap p).map tP))) mu
section
variable {P : Program} {w : World} {K : PySem.W.Frag} {mg : Str → Option Value} {base : Heap} (c : Fc fa fn tf tl K mg base)
include c
theorem ok_first_pairs : FnG P w K mg base (tabsOf tf tl K) 3 "first_pairs" S_first := by
  refine fn_DD c d_first_pairs (g_first_pairs c) sc_first_pairs bi_first_pairs (fun ds mu o ⟨_, _, _, h, _⟩ => by rw [h]; rfl) fun A outer s H E hr ds mu o h => ?_
  obtain ⟨one, other, gap, rfl, g1, g2, gg, rfl⟩ := h
  refine ⟨_, .ret, ?_⟩
  have o1 := fromS_ok g1.n gap
  have o2 := fromS_ok g2.n gap
  have l1 := o1.len g1.n
  have l2 := o2.len g2.n
  refine ss_cons (sd_setN sc_first_pairs.nd 3 (ev_lst ea_nil .nil)) ?_
  refine ss_cons (G1 := [.val (dR one), .val (dR other), .val (dGap gap), .own (.lst ((firstP one other gap).map tP)), .no, .no]) (mu1 := mu) ?loop (ss_one (sd_retB (ev_own 3)))
  case loop =>
    unfold firstP
    rw [← pairF_fold]
    refine sd_for (passes_of rfl) rfl (ei_list (ev_call (ok_from_start c) hr (ea_cons (ev_val 0) (ea_cons (ev_val 2) ea_nil)) (.dat (.dat .nil)) ⟨one.1, one.2, gap, rfl, g1.n, gg, rfl⟩))
      (for_N (C := fun l : List Pr => [.val (dR one), .val (dR other), .val (dGap gap), .own (.lst (l.map tP)), .no, .no]) (M := fun _ => mu) (pairF one other (fromS other.1 gap)) (fun i l => l.length ≤ i * 6) _ [] (Nat.le_refl _) fun i l d hd hl => ?_)
    have hi : i < (fromS one.1 gap).length := by
      have := (List.getElem?_eq_some_iff.mp hd).1
      rw [List.length_map] at this
      exact this
    obtain ⟨st, hs, rfl⟩ := List.mem_map.mp (List.mem_of_getElem? hd)
    have hst := o1.rg st hs
    have hrow := row_len (one := one) (other := other) (s := st) l2
    refine ⟨?_, _, _, [.val (dR one), .val (dR other), .val (dGap gap), .own (.lst ((l ++ rowP one other st (fromS other.1 gap)).map tP)), .val (.int st), .no], eg_name sc_first_pairs.nd 4, ss_one (sd_as (sd_ext (r := .new (.lst ((rowP one other st (fromS other.1 gap)).map tP))) (ds := l.map tP) (zs := (rowP one other st (fromS other.1 gap)).map tP) sc_first_pairs.nd 3 (as (ev_comp (own := [("mate", 5)]) rfl sc_first_pairs.nd (ei_list (ev_call (ok_from_start c) hr (ea_cons (ev_val 1) (ea_cons (ev_val 2) ea_nil)) (.dat (.dat .nil)) ⟨other.1, other.2, gap, rfl, g2.n, gg, rfl⟩)) (blkOk_by (by kernel_rfl)) (noown rfl)
      (comp_filtA .int (fun m => tP (st, m)) (q := fun m => decide (pic one.2 st = pic other.2 m)) fun m hm => ⟨_, _, fun s H C cl fp => eg_name sc_first_pairs.nd 5, by decide, rfl, fun s H C cl fp => ets_one (et_eqI (ev_ixT (ev_ixT (ev_val 0) ev_int rfl) (ev_val 4) (at_pics g1 hst)) (ev_ixT (ev_ixT (ev_val 1) ev_int rfl) (ev_val 5) (at_pics g2 (o2.rg m hm)))), fun _ s H C cl fp => ev_tup (ea_cons (ev_val 4) (ea_cons (ev_val 5) ea_nil)) (.dat (.dat .nil)) (by simp)⟩) ?len) ?er) rfl ?hz rfl) ?eG), ?wk⟩
    case len =>
      have h1 : ((fromS other.1 gap).filter fun m => decide (pic one.2 st = pic other.2 m)).length ≤ (fromS other.1 gap).length := List.length_filter_le _ _
      rw [List.length_map]
      omega
    case er =>
      unfold rowP
      rw [List.map_map] <;> rfl
    case hz =>
      rw [List.length_map, List.length_map, sizeLine_eq]
      omega
    case eG =>
      rw [List.map_append] <;> rfl
    case wk =>
      show Wk [_, _, _, .own (.lst ((l ++ rowP one other st (fromS other.1 gap)).map tP)), _, _] _
      repeat (first | exact Wk.nil | refine Wk.same ?_ | refine Wk.no ?_)
    show (l ++ rowP one other st (fromS other.1 gap)).length ≤ _
    rw [List.length_append, Nat.succ_mul]
    omega
theorem ok_next_pairs : FnG P w K mg base (tabsOf tf tl K) 3 "next_pairs" S_next := by
  refine fn_DD c d_next_pairs (g_next_pairs c) sc_next_pairs bi_next_pairs (fun ds mu o ⟨_, _, _, _, h, _⟩ => by rw [h]; rfl) fun A outer s H E hr ds mu o h => ?_
  obtain ⟨one, other, gap, p, rfl, g1, g2, gg, hp1, hp2, rfl⟩ := h
  refine ⟨_, .ret, ?_⟩
  have o1 := aheadS_ok g1.n gap hp1
  have o2 := aheadS_ok g2.n gap hp2
  have l1 := o1.len g1.n
  have l2 := o2.len g2.n
  refine ss_cons (sd_setN sc_next_pairs.nd 4 (ev_lst ea_nil .nil)) ?_
  refine ss_cons (G1 := [.val (dR one), .val (dR other), .val (dGap gap), .val (tP p), .own (.lst ((nextP one other gap p).map tP)), .no, .no]) (mu1 := mu) ?loop (ss_one (sd_retB (ev_own 4)))
  case loop =>
    unfold nextP
    rw [← pairF_fold]
    refine sd_for (passes_of rfl) rfl (ei_list (ev_call (ok_ahead c) hr (ea_cons (ev_val 0) (ea_cons (ev_ixT (ds := [.int p.1, .int p.2]) (d := .int p.1) (i := 0) (ev_val 3) ev_int rfl) (ea_cons (ev_val 2) ea_nil))) (.dat (.dat (.dat .nil))) ⟨one.1, one.2, p.1, gap, rfl, g1.n, hp1, gg, rfl⟩))
      (for_N (C := fun l : List Pr => [.val (dR one), .val (dR other), .val (dGap gap), .val (tP p), .own (.lst (l.map tP)), .no, .no]) (M := fun _ => mu) (pairF one other (aheadS other.1 p.2 gap)) (fun i l => l.length ≤ i * 6) _ [] (Nat.le_refl _) fun i l d hd hl => ?_)
    have hi : i < (aheadS one.1 p.1 gap).length := by
      have := (List.getElem?_eq_some_iff.mp hd).1
      rw [List.length_map] at this
      exact this
    obtain ⟨st, hs, rfl⟩ := List.mem_map.mp (List.mem_of_getElem? hd)
    have hst := o1.rg st hs
    have hrow := row_len (one := one) (other := other) (s := st) l2
    refine ⟨?_, _, _, [.val (dR one), .val (dR other), .val (dGap gap), .val (tP p), .own (.lst ((l ++ rowP one other st (aheadS other.1 p.2 gap)).map tP)), .val (.int st), .no], eg_name sc_next_pairs.nd 5, ss_one (sd_as (sd_ext (r := .new (.lst ((rowP one other st (aheadS other.1 p.2 gap)).map tP))) (ds := l.map tP) (zs := (rowP one other st (aheadS other.1 p.2 gap)).map tP) sc_next_pairs.nd 4 (as (ev_comp (own := [("mate", 6)]) rfl sc_next_pairs.nd (ei_list (ev_call (ok_ahead c) hr (ea_cons (ev_val 1) (ea_cons (ev_ixT (ds := [.int p.1, .int p.2]) (d := .int p.2) (i := 1) (ev_val 3) ev_int rfl) (ea_cons (ev_val 2) ea_nil))) (.dat (.dat (.dat .nil))) ⟨other.1, other.2, p.2, gap, rfl, g2.n, hp2, gg, rfl⟩)) (blkOk_by (by kernel_rfl)) (noown rfl)
      (comp_filtA .int (fun m => tP (st, m)) (q := fun m => decide (pic one.2 st = pic other.2 m)) fun m hm => ⟨_, _, fun s H C cl fp => eg_name sc_next_pairs.nd 6, by decide, rfl, fun s H C cl fp => ets_one (et_eqI (ev_ixT (ev_ixT (ev_val 0) ev_int rfl) (ev_val 5) (at_pics g1 hst)) (ev_ixT (ev_ixT (ev_val 1) ev_int rfl) (ev_val 6) (at_pics g2 (o2.rg m hm)))), fun _ s H C cl fp => ev_tup (ea_cons (ev_val 5) (ea_cons (ev_val 6) ea_nil)) (.dat (.dat .nil)) (by simp)⟩) ?len) ?er) rfl ?hz rfl) ?eG), ?wk⟩
    case len =>
      have h1 : ((aheadS other.1 p.2 gap).filter fun m => decide (pic one.2 st = pic other.2 m)).length ≤ (aheadS other.1 p.2 gap).length := List.length_filter_le _ _
      rw [List.length_map]
      omega
    case er =>
      unfold rowP
      rw [List.map_map] <;> rfl
    case hz =>
      rw [List.length_map, List.length_map, sizeLine_eq]
      omega
    case eG =>
      rw [List.map_append] <;> rfl
    case wk =>
      show Wk [_, _, _, _, .own (.lst ((l ++ rowP one other st (aheadS other.1 p.2 gap)).map tP)), _, _] _
      repeat (first | exact Wk.nil | refine Wk.same ?_ | refine Wk.no ?_)
    show (l ++ rowP one other st (aheadS other.1 p.2 gap)).length ≤ _
    rw [List.length_append, Nat.succ_mul]
    omega
end
end K63

set_option Elab.async false
set_option linter.all false
set_option maxRecDepth 100000
set_option maxHeartbeats 4000000
namespace K63
open PySem PySem.Spec PyProof.Rows L2 Dl
/-- pairs of states -/
def univP (one other : Reel) : List Pr := (upToN one.1.length).flatMap fun a => (upToN other.1.length).map fun b => (a, b)
theorem upTo_mem {n : Nat} {x : Int} (h : 0 ≤ x ∧ x < n) : x ∈ upToN n := by
  unfold upToN
  exact List.mem_map.mpr ⟨x.toNat, List.mem_range.mpr (by omega), by omega⟩
theorem univ_mem {one other : Reel} {p : Pr} (h1 : 0 ≤ p.1 ∧ p.1 < one.1.length) (h2 : 0 ≤ p.2 ∧ p.2 < other.1.length) : p ∈ univP one other :=
  List.mem_flatMap.mpr ⟨p.1, upTo_mem h1, List.mem_map.mpr ⟨p.2, upTo_mem h2, rfl⟩⟩
theorem univ_len {one other : Reel} (g1 : GoodN one.1) (g2 : GoodN other.1) : (univP one other).length ≤ 36 := by
  unfold univP
  have k : ∀ l : List Int, (l.flatMap fun a => (upToN other.1.length).map fun b => (a, b)).length = l.length * other.1.length := by
    intro l
    induction l with
    | nil => simp
    | cons x l ih =>
      rw [List.flatMap_cons, List.length_append, ih, List.length_map, upTo_len, List.length_cons, Nat.succ_mul]
      omega
  rw [k, upTo_len]
  have h1 := g1.hi
  have h2 := g2.hi
  exact Nat.mul_le_mul h1 h2
def InP (one other : Reel) (p : Pr) : Prop := (0 ≤ p.1 ∧ p.1 < one.1.length) ∧ (0 ≤ p.2 ∧ p.2 < other.1.length)
theorem first_in {one other : Reel} (g1 : GoodN one.1) (g2 : GoodN other.1) {gap : Option Int} {p : Pr} (h : p ∈ firstP one other gap) : InP one other p := by
  obtain ⟨h1, h2, _⟩ := mem_pairs.mp h
  exact ⟨(fromS_ok g1 gap).rg _ h1, (fromS_ok g2 gap).rg _ h2⟩
theorem next_in {one other : Reel} (g1 : GoodN one.1) (g2 : GoodN other.1) {gap : Option Int} {p q : Pr} (hp : InP one other p) (h : q ∈ nextP one other gap p) : InP one other q := by
  obtain ⟨h1, h2, _⟩ := mem_pairs.mp h
  exact ⟨(aheadS_ok g1 gap hp.1).rg _ h1, (aheadS_ok g2 gap hp.2).rg _ h2⟩
theorem reach_in {one other : Reel} (g1 : GoodN one.1) (g2 : GoodN other.1) {gap : Option Int} {p : Pr} (h : Reach (nextP one other gap) (firstP one other gap) p) : InP one other p := by
  induction h with
  | start h => exact first_in g1 g2 h
  | step _ h ih => exact next_in g1 g2 ih h
theorem first_len {one other : Reel} (g1 : GoodN one.1) (g2 : GoodN other.1) (gap : Option Int) : (firstP one other gap).length ≤ 36 :=
  pairs_len ((fromS_ok g1 gap).len g1) ((fromS_ok g2 gap).len g2)
theorem next_len {one other : Reel} (g1 : GoodN one.1) (g2 : GoodN other.1) {gap : Option Int} {p : Pr} (h : InP one other p) : (nextP one other gap p).length ≤ 36 :=
  pairs_len ((aheadS_ok g1 gap h.1).len g1) ((aheadS_ok g2 gap h.2).len g2)
theorem web_fin {one other : Reel} (g1 : GoodN one.1) (g2 : GoodN other.1) (gap : Option Int) : WFin (nextP one other gap) (firstP one other gap) (univP one other) 36 :=
  ⟨fun _ h => have k := reach_in g1 g2 h; univ_mem k.1 k.2, fun _ h => next_len g1 g2 (reach_in g1 g2 h)⟩
def fuelP : Nat := 2000
def webP (one other : Reel) (gap : Option Int) : List Pr := webK (nextP one other gap) fuelP (firstP one other gap)
theorem meas0 {one other : Reel} (g1 : GoodN one.1) (g2 : GoodN other.1) (gap : Option Int) : (univP one other).length * (36 + 1) + (firstP one other gap).length ≤ fuelP := by
  have h1 := univ_len g1 g2
  have h2 := first_len g1 g2 gap
  have h3 : (univP one other).length * 37 ≤ 36 * 37 := Nat.mul_le_mul_right _ h1
  show (univP one other).length * 37 + _ ≤ 2000
  omega
theorem webP_ok {one other : Reel} (g1 : GoodN one.1) (g2 : GoodN other.1) (gap : Option Int) : (webP one other gap).Nodup ∧ ∀ k, k ∈ webP one other gap ↔ Reach (nextP one other gap) (firstP one other gap) k :=
  webK_ok (web_fin g1 g2 gap) (meas0 g1 g2 gap)
/-- a web as a dict -/
def dWeb (nx : Pr → List Pr) (keys : List Pr) : Dt := dicN tP (keys.map fun k => (k, .lst ((nx k).map tP)))
def S_web : FSpec := fun ds mu o => ∃ one other : Reel, ∃ gap, ds = [dR one, dR other, dGap gap] ∧ GoodR one.1 one.2 ∧ GoodR other.1 other.2 ∧ GoodG gap ∧ npL mu.length mu = true ∧ o = .ret (.new (dWeb (nextP one other gap) (webP one other gap))) mu
section
variable {P : Program} {w : World} {K : PySem.W.Frag} {mg : Str → Option Value} {base : Heap} (c : Fc fa fn tf tl K mg base)
include c
theorem ok_web_of : FnG P w K mg base (tabsOf tf tl K) 4 "web_of" S_web := by
  refine fn_DD c d_web_of (g_web_of c) sc_web_of bi_web_of (fun ds mu o ⟨_, _, _, h, _⟩ => by rw [h]; rfl) fun A outer s H E hr ds mu o h => ?_
  obtain ⟨one, other, gap, rfl, g1, g2, gg, hmu, rfl⟩ := h
  refine ⟨_, .ret, ?_⟩
  have hu : (cxF P w K mg base n_web_of "web_of" s_web_of A outer s H E).A.units + 9 < cLine := by
    have := hr.units
    omega
  obtain ⟨nx, hnx⟩ : ∃ nx, nx = nextP one other gap := ⟨_, rfl⟩
  have fin := web_fin g1.n g2.n gap
  have m0 := meas0 g1.n g2.n gap
  have rin : ∀ k, Reach nx (firstP one other gap) k → InP one other k := fun k h => reach_in g1.n g2.n (hnx ▸ h)
  refine ss_cons (sd_take (m := dicN tP []) 3 (G2 := [.val (dR one), .val (dR other), .val (dGap gap), .val (.ptr mu.length), .own (.lst ((firstP one other gap).map tP)), .no]) (mu2 := mu) (sd_parN rfl sc_web_of.nd 3 4 (ev_share (ev_dictN ktP)) (ev_call (ok_first_pairs c) hr (ea_cons (ev_val 0) (ea_cons (ev_val 1) (ea_cons (ev_val 2) ea_nil))) (.dat (.dat (.dat .nil))) ⟨one, other, gap, rfl, g1, g2, gg, rfl⟩)) rfl rfl ?np hmu rfl) ?_
  case np =>
    show (npC _ (.val (dR one)) && (npC _ (.val (dR other)) && (npC _ (.val (dGap gap)) && (npC _ .no && (npC _ (.own (.lst ((firstP one other gap).map tP))) && (npC _ .no && true)))))) = true
    unfold npC
    simp only [np_R, np_G, Bool.true_and]
    show (npL _ ((firstP one other gap).map tP) && true) = true
    rw [np_map (fun a => np_P a)] <;> rfl
  refine ss_cons (G1 := [.val (dR one), .val (dR other), .val (dGap gap), .own (dWeb nx (webP one other gap)), .no, .no]) (mu1 := mu) (sd_weak (sd_while (n := fuelP) (passes_of rfl) (while_fuel (C := fun s : List Pr × List Pr => [.val (dR one), .val (dR other), .val (dGap gap), .own (dWeb nx s.1), .own (.lst (s.2.map tP)), .no]) (stepW nx) (fun s => s.2.isEmpty) (measW (univP one other).length 36) (fun s => WInv nx (firstP one other gap) s ∧ measW (univP one other).length 36 s ≤ fuelP) (fun s hs => ?test) (fun s hs he => ?body) fuelP ([], firstP one other gap) ?m0 ⟨.init _, ?m1⟩)) ?wk) ?_
  case m0 =>
    unfold measW
    simpa using m0
  case m1 =>
    unfold measW
    simpa using m0
  case wk =>
    show Wk [_, _, _, .own (dWeb nx (webP one other gap)), _, _] [_, _, _, .own (dWeb nx (iterW (stepW nx) (fun s => s.2.isEmpty) fuelP ([], firstP one other gap)).1), _, _]
    rw [hnx]
    repeat (first | exact Wk.nil | refine Wk.same ?_ | refine Wk.no ?_)
  case test =>
    refine asT (et_tru (ev_own 4) rfl rfl) ?_
    cases s.2 <;> rfl
  case body =>
    obtain ⟨hs1, hs2⟩ := hs
    obtain ⟨st1, st2⟩ := hs1.step (hnx ▸ fin) he
    refine ⟨⟨st1, by omega⟩, st2, ?_⟩
    obtain ⟨wt, k, e⟩ := last_of he
    have hk : Reach nx (firstP one other gap) k := hs1.r2 k (by rw [e]; exact List.mem_append.mpr (.inr (List.mem_singleton.mpr rfl)))
    have kin := rin k hk
    have klen := next_len g1.n g2.n (gap := gap) kin
    have slen := nodup_sub s.1 (univP one other) hs1.nd fun j hj => have q := rin j (hs1.r1 j hj); univ_mem q.1 q.2
    have ulen := univ_len g1.n g2.n
    have wlen : wt.length ≤ 2000 := by
      have : s.2.length ≤ measW (univP one other).length 36 s := by unfold measW; omega
      rw [e, List.length_append] at this
      have h2 : measW (univP one other).length 36 s ≤ 2000 := hs2
      omega
    have hz := stepW_last (nx := nx) e
    generalize stepW nx s = z at hz ⊢
    obtain ⟨s1, s2⟩ := s
    have e : s2 = wt ++ [k] := e
    subst e
    have hz1 : k ∈ s1 → z = (s1, wt) := fun h => by rw [hz]; exact if_pos h
    have hz2 : k ∉ s1 → z = (s1 ++ [k], wt ++ nx k) := fun h => by rw [hz]; exact if_neg h
    clear hz
    have slen : s1.length ≤ (univP one other).length := slen
    show ∃ G2, SDs _ _ _ [.val (dR one), .val (dR other), .val (dGap gap), .own (dWeb nx s1), .own (.lst ((wt ++ [k]).map tP)), .no] mu _ (.nx G2 mu) ∧ Wk [.val (dR one), .val (dR other), .val (dGap gap), .own (dWeb nx z.1), .own (.lst (z.2.map tP)), .no] G2
    refine ⟨[.val (dR one), .val (dR other), .val (dGap gap), .own (dWeb nx z.1), .own (.lst (z.2.map tP)), .val (tP k)], ?_, Wk.same (Wk.same (Wk.same (Wk.same (Wk.same (Wk.no Wk.nil)))))⟩
    refine ss_cons (sd_pop (ds := wt.map tP) (d := tP k) sc_web_of.nd 4 5 (ev_own 4) (by rw [List.map_append] <;> rfl)) ?_
    refine ss_one (sifB (et_nnotin ktP hu (ev_val 5) (ev_own 3)) (fun hb => ?new) (fun hb => ?old))
    case old =>
      have hm : k ∈ s1 := by
        exact getA_iff.mp (by simpa using hb)
      rw [hz1 hm]
      exact ss_nil
    case new =>
      have hm : k ∉ s1 := by
        intro z
        rw [getA_iff.mpr z] at hb
        cases hb
      rw [hz2 hm]
      have hput : putA (s1.map fun k => (k, Dt.lst ((nx k).map tP))) k (.lst ((nx k).map tP)) = (s1 ++ [k]).map fun k => (k, Dt.lst ((nx k).map tP)) := by
        rw [putA_new _ _ _ (getA_out hm), List.map_append] <;> rfl
      refine ss_cons (G1 := [.val (dR one), .val (dR other), .val (dGap gap), .own (dWeb nx (s1 ++ [k])), .own (.lst (wt.map tP)), .val (tP k)]) (mu1 := mu) (sd_as (sd_nput ktP (kvs := s1.map fun k => (k, Dt.lst ((nx k).map tP))) (k := k) (d := .lst ((nx k).map tP)) 3 hu (ev_give (ev_call (ok_next_pairs c) hr (ea_cons (ev_val 0) (ea_cons (ev_val 1) (ea_cons (ev_val 2) (ea_cons (ev_val 5) ea_nil)))) (.dat (.dat (.dat (.dat .nil)))) ⟨one, other, gap, k, rfl, g1, g2, gg, kin.1, kin.2, by rw [hnx]⟩)) (ev_own 3) (ev_val 5) rfl (by rw [List.length_map]; omega)) ?eG) ?_
      case eG =>
        rw [hput] <;> rfl
      have hget : getA ((s1 ++ [k]).map fun k => (k, Dt.lst ((nx k).map tP))) k = some (.lst ((nx k).map tP)) := by
        exact getA_in (List.mem_append.mpr (.inr (List.mem_singleton.mpr rfl)))
      refine ss_one (sd_as (sd_ext (ds := wt.map tP) (zs := (nx k).map tP) sc_web_of.nd 4 (ev_ngetN ktP hu (ev_own 3) (ev_val 5) hget) rfl ?hz) ?eG2)
      case hz =>
        rw [List.length_map, List.length_map, sizeLine_eq, hnx]
        omega
      case eG2 =>
        rw [List.map_append] <;> rfl
  rw [hnx]
  exact ss_one (sd_retB (ev_own 3))
end
end K63

set_option Elab.async false
set_option linter.all false
set_option maxRecDepth 100000
set_option maxHeartbeats 4000000
namespace K63
open PySem PySem.Spec PyProof.Rows L2 Dl
theorem u9 {k : Nat} {A : Around} (h : Room k A) : A.units + 9 < cLine := by
  have := h.units
  omega
def dTab (f : List (Pr × Int)) : Dt := dicN tP (f.map fun p => (p.1, .int p.2))
def dRank : Option (List (Pr × Int)) → Dt
  | none => .non
  | some f => dTab f
/-- a web that holds all that it names -/
structure GoodW (nx : Pr → List Pr) (keys : List Pr) : Prop where
  nd : keys.Nodup
  cl : ∀ k ∈ keys, ∀ j ∈ nx k, j ∈ keys
  len : keys.length ≤ 1000
  deg : ∀ k ∈ keys, (nx k).length ≤ 1000
def S_ranks : FSpec := fun ds mu o => ∃ nx keys, ds = [dWeb nx keys] ∧ GoodW nx keys ∧ o = .ret (.dat (dRank (ranksS nx keys))) mu
theorem addP_has {nx : Pr → List Pr} : ∀ (ks : List Pr) (f : List (Pr × Int)) (j : Pr), hasK (addP nx f ks) j = (hasK f j || decide (j ∈ ks))
  | [], f, j => by
    show hasK f j = (hasK f j || decide (j ∈ ([] : List Pr)))
    rw [decide_eq_false (by simp), Bool.or_false]
  | k :: ks, f, j => by
    have e := addP_has (nx := nx) ks (f ++ [(k, rkP nx f k)]) j
    have e : hasK (addP nx f (k :: ks)) j = _ := e
    rw [e, hasK_app]
    show (hasK f j || (decide (k = j) || false) || decide (j ∈ ks)) = _
    rw [Bool.or_false, Bool.or_assoc]
    congr 1
    by_cases h : k = j
    · rw [decide_eq_true h, Bool.true_or, decide_eq_true (by rw [h]; exact List.mem_cons_self)]
    · rw [decide_eq_false h, Bool.false_or]
      by_cases h2 : j ∈ ks
      · rw [decide_eq_true h2, decide_eq_true (List.mem_cons_of_mem _ h2)]
      · rw [decide_eq_false h2, decide_eq_false (fun z => (List.mem_cons.mp z).elim (fun y => h y.symm) h2)]
/-- a key from its data -/
def keyP : Dt → Pr
  | .tup [.int a, .int b] => (a, b)
  | _ => (0, 0)
def addD (nx : Pr → List Pr) (f : List (Pr × Int)) (d : Dt) : List (Pr × Int) := f ++ [(keyP d, rkP nx f (keyP d))]
theorem addD_fold (nx : Pr → List Pr) (f : List (Pr × Int)) (ks : List Pr) : (ks.map tP).foldl (addD nx) f = addP nx f ks := by
  rw [List.foldl_map] <;> rfl
section
variable {P : Program} {w : World} {K : PySem.W.Frag} {mg : Str → Option Value} {base : Heap} (c : Fc fa fn tf tl K mg base)
include c
theorem ok_ranks_of : FnG P w K mg base (tabsOf tf tl K) 2 "ranks_of" S_ranks := by
  refine fn_DD c d_ranks_of (g_ranks_of c) sc_ranks_of bi_ranks_of (fun ds mu o ⟨_, _, h, _⟩ => by rw [h]; rfl) fun A outer s H E hr ds mu o h => ?_
  obtain ⟨nx, keys, rfl, g, rfl⟩ := h
  refine ⟨_, .ret, ?_⟩
  have hu : (cxF P w K mg base n_ranks_of "ranks_of" s_ranks_of A outer s H E).A.units + 9 < cLine := by
    have := hr.units
    omega
  obtain ⟨tb, hP⟩ := t_ranks_of c
  refine ss_cons (sd_setN sc_ranks_of.nd 1 (ev_dictN ktP)) ?_
  have hRank : dRank (ranksS nx keys) = iterR (rankStep nx keys) (fun f => (rankFin nx keys f).map dRank) (dRank none) (keys.length + 1) [] := by
    unfold ranksS
    have k : ∀ (n : Nat) (f : List (Pr × Int)), dRank (iterR (rankStep nx keys) (rankFin nx keys) none n f) = iterR (rankStep nx keys) (fun f => (rankFin nx keys f).map dRank) (dRank none) n f := by
      intro n
      induction n with
      | zero => intro f; rfl
      | succ n ih =>
        intro f
        unfold iterR
        cases e : rankFin nx keys f with
        | none => exact ih _
        | some r => rfl
    exact k _ _
  rw [hRank]
  refine ss_stop (sd_while (n := keys.length + 1) (passes_of rfl) (while_ret (C := fun f : List (Pr × Int) => [.val (dWeb nx keys), .own (dTab f), .no, .no, .no]) (rankStep nx keys) (fun f => (rankFin nx keys f).map dRank) (dRank none) (fun f => keys.length - f.length) (RInv nx keys (fun n r => (n : Int) < r)) (fun f hf => et_val ev_bl) (fun f hf he => ?go) (fun f r hf he => ?fin) (keys.length + 1) [] ?m0 .nil))
  case m0 =>
    show keys.length - 0 < keys.length + 1
    omega
  case go =>
    have flen := hf.len
    have glen := g.len
    have klen : (keys.filter (freshK nx f)).length ≤ keys.length := List.length_filter_le _ _
    have hno : (keys.filter (freshK nx f)).isEmpty = false := by
      cases e : (keys.filter (freshK nx f)).isEmpty with
      | false => rfl
      | true =>
        have he : (rankFin nx keys f).map dRank = none := he
        unfold rankFin at he
        rw [e, if_pos rfl] at he
        cases he
    obtain ⟨r1, r2⟩ := rankStep_ok g.nd hf hno
    refine ⟨r1, r2, [.val (dWeb nx keys), .own (dTab (rankStep nx keys f)), .val (.lst ((keys.filter (freshK nx f)).map tP)), .no, .no], ?_, Wk.same (Wk.same (Wk.no (Wk.same (Wk.same Wk.nil))))⟩
    refine ss_cons (sd_compV (own := [("pair", 3)]) rfl sc_ranks_of.nd 2 (ei_as (ei_keysN ktP (kvs := keys.map fun k => (k, Dt.lst ((nx k).map tP))) (ev_val 0)) (show _ = keys.map tP by rw [List.map_map] <;> rfl)) (blkOk_by (by kernel_rfl)) (noown rfl)
      (comp_filtA tP tP (q := freshK nx f) fun k hk => ⟨_, _, fun s H C cl fp => eg_name sc_ranks_of.nd 3, by decide, rfl, fun s H C cl fp => ets_one (et_w (ew_and (asT (et_nnotin ktP hu (ev_val 3) (ev_own 1)) (by rw [(getA_num f k).1])) fun _ => ew_and1 (et_val (ev_all (k := 0) (N := ["found", "there"]) (cap := [some 1, none]) [1] hr tb hP rfl (gx_by (by kernel_rfl)) (capInj_of rfl) (b_all c) (ei_list (ev_ngetN ktP hu (ev_val 0) (ev_val 3) (getA_in hk))) (by decide)
        (gx_allB tP (hasK f) fun j hj => ⟨_, _, fun s H code fp => eg_name (show (["found", "there"] : List Str).Nodup by decide) 1, by decide, rfl, fun s H code fp => asB (ev_nin ktP (u9 (room_gx hr)) (ev_val 1) (ev_own 0)) (by rw [(getA_num f j).1])⟩))))), fun _ s H C cl fp => ev_val 3⟩) ?len) ?_
    case len =>
      rw [List.length_map]
      omega
    refine ss_cons (sif0 (et_not (et_tru (ev_val 2) rfl rfl)) ?ne) ?_
    case ne =>
      cases e : keys.filter (freshK nx f) with
      | nil => rw [e] at hno; cases hno
      | cons _ _ => rfl
    refine ss_one (sd_weak (G1 := [.val (dWeb nx keys), .own (dTab (((keys.filter (freshK nx f)).map tP).foldl (addD nx) f)), .val (.lst ((keys.filter (freshK nx f)).map tP)), .no, .no]) (sd_for (passes_of rfl) rfl (ei_list (ev_val 2)) (for_N (C := fun h : List (Pr × Int) => [.val (dWeb nx keys), .own (dTab h), .val (.lst ((keys.filter (freshK nx f)).map tP)), .no, .no]) (M := fun _ => mu) (addD nx) (fun i h => h = addP nx f ((keys.filter (freshK nx f)).take i)) _ f rfl fun i h d hd hh => ?body)) ?wk)
    case wk =>
      rw [addD_fold]
      exact Wk.refl _
    case body =>
      rw [List.getElem?_map] at hd
      obtain ⟨k, hk, rfl⟩ := Option.map_eq_some_iff.mp hd
      have hi : i < (keys.filter (freshK nx f)).length := (List.getElem?_eq_some_iff.mp hk).1
      have nd := g.nd.filter (freshK nx f)
      obtain ⟨k1, k2⟩ := List.mem_filter.mp (List.mem_of_getElem? hk)
      obtain ⟨k3, k4⟩ := fresh_has k2
      have kt0 : k ∉ (keys.filter (freshK nx f)).take i := fun z => by
        obtain ⟨j, hj, e⟩ := List.mem_iff_getElem.mp z
        rw [List.length_take] at hj
        have e1 : (keys.filter (freshK nx f))[j]'(by omega) = k := by rw [← e, List.getElem_take]
        have e2 : (keys.filter (freshK nx f))[i] = k := (List.getElem?_eq_some_iff.mp hk).2
        have := (List.getElem_inj nd).mp (e1.trans e2.symm)
        omega
      have hhk : hasK h k = false := by
        rw [hh, addP_has, k3, decide_eq_false kt0] <;> rfl
      have hhj : ∀ j ∈ nx k, hasK h j = true := fun j hj => by
        rw [hh, addP_has, k4 j hj, Bool.true_or]
      have hlen : h.length ≤ 2000 := by
        have := (addP_ok ((keys.filter (freshK nx f)).take i) hf (nd.sublist (List.take_sublist _ _)) fun j hj => by
          obtain ⟨j1, j2⟩ := List.mem_filter.mp (List.mem_of_mem_take hj)
          exact ⟨j1, fresh_has j2⟩).2
        rw [hh, this, List.length_take]
        omega
      have dk := g.deg k k1
      refine ⟨?_, _, _, [.val (dWeb nx keys), .own (dTab (h ++ [(k, rkP nx h k)])), .val (.lst ((keys.filter (freshK nx f)).map tP)), .val (tP k), .no], eg_name sc_ranks_of.nd 3, ss_one (sd_as (sd_nput ktP (kvs := h.map fun p => (p.1, Dt.int p.2)) (k := k) (d := .int (rkP nx h k)) 1 hu (ev_add ev_int (ev_maxDef (ns := (nx k).map (lookI h)) (j := 0) rfl (ev_comp (own := [("there", 4)]) rfl sc_ranks_of.nd (ei_list (ev_ngetN ktP hu (ev_val 0) (ev_val 3) (getA_in k1))) (blkOk_by (by kernel_rfl)) (noown rfl)
        (comp_allA tP (fun j => .int (lookI h j)) fun j hj => ⟨_, _, fun s H C cl fp => eg_name sc_ranks_of.nd 4, by decide, rfl, fun s H C cl fp => ev_ngetN ktP hu (ev_own 1) (ev_val 4) ((getA_num h j).2 (hhj j hj))⟩) ?len2) ev_int (b_max c) ?lk)) (ev_own 1) (ev_val 3) rfl ?hl) ?eG), ?wk2⟩
      case len2 =>
        rw [List.length_map]
        omega
      case lk =>
        show some (Dt.lst _) = some (Dt.lst _)
        rw [List.map_map] <;> rfl
      case hl =>
        rw [List.length_map]
        omega
      case eG =>
        rw [putA_new _ _ _ (by rw [(getA_num h k).1, hhk])]
        show [_, Cell.own (dicN tP _), _, _, _] = [_, Cell.own (dicN tP _), _, _, _]
        rw [List.map_append] <;> rfl
      case wk2 =>
        show Wk [_, .own (dTab (h ++ [(k, rkP nx h k)])), _, _, _] _
        repeat (first | exact Wk.nil | refine Wk.same ?_ | refine Wk.no ?_)
      show h ++ [(k, rkP nx h k)] = _
      rw [List.take_add_one, hk, hh]
      show _ = addP nx f (_ ++ [k])
      unfold addP
      rw [List.foldl_append] <;> rfl
  case fin =>
    have flen := hf.len
    have glen := g.len
    have klen : (keys.filter (freshK nx f)).length ≤ keys.length := List.length_filter_le _ _
    have hyes : (keys.filter (freshK nx f)).isEmpty = true ∧ r = dRank (if f.length = keys.length then some f else none) := by
      have he : (rankFin nx keys f).map dRank = some r := he
      unfold rankFin at he
      cases e : (keys.filter (freshK nx f)).isEmpty with
      | false => rw [e, if_neg (by decide)] at he; cases he
      | true =>
        rw [e, if_pos rfl] at he
        exact ⟨rfl, (Option.some.inj he).symm⟩
    obtain ⟨hy1, rfl⟩ := hyes
    refine ss_cons (sd_compV (own := [("pair", 3)]) rfl sc_ranks_of.nd 2 (ei_as (ei_keysN ktP (kvs := keys.map fun k => (k, Dt.lst ((nx k).map tP))) (ev_val 0)) (show _ = keys.map tP by rw [List.map_map] <;> rfl)) (blkOk_by (by kernel_rfl)) (noown rfl)
      (comp_filtA tP tP (q := freshK nx f) fun k hk => ⟨_, _, fun s H C cl fp => eg_name sc_ranks_of.nd 3, by decide, rfl, fun s H C cl fp => ets_one (et_w (ew_and (asT (et_nnotin ktP hu (ev_val 3) (ev_own 1)) (by rw [(getA_num f k).1])) fun _ => ew_and1 (et_val (ev_all (k := 0) (N := ["found", "there"]) (cap := [some 1, none]) [1] hr tb hP rfl (gx_by (by kernel_rfl)) (capInj_of rfl) (b_all c) (ei_list (ev_ngetN ktP hu (ev_val 0) (ev_val 3) (getA_in hk))) (by decide)
        (gx_allB tP (hasK f) fun j hj => ⟨_, _, fun s H code fp => eg_name (show (["found", "there"] : List Str).Nodup by decide) 1, by decide, rfl, fun s H code fp => asB (ev_nin ktP (u9 (room_gx hr)) (ev_val 1) (ev_own 0)) (by rw [(getA_num f j).1])⟩))))), fun _ s H C cl fp => ev_val 3⟩) ?len) ?_
    case len =>
      rw [List.length_map]
      omega
    refine ss_stop (sifT (et_not (et_tru (ev_val 2) rfl rfl)) (ss_giveUp 1 rfl (ss_one (sd_ret ?ret))) ?ne)
    case ne =>
      rw [List.isEmpty_iff.mp hy1] <;> rfl
    case ret =>
      have l1 : (f.map fun p : Pr × Int => (p.1, Dt.int p.2)).length = f.length := List.length_map ..
      have l2 : (keys.map fun k => (k, Dt.lst ((nx k).map tP))).length = keys.length := List.length_map ..
      by_cases hl : f.length = keys.length
      · rw [if_pos hl]
        exact ifxT (et_eqI (ev_lenN ktP (kvs := f.map fun p => (p.1, Dt.int p.2)) (ev_val 1) (b_len c)) (ev_lenN ktP (kvs := keys.map fun k => (k, Dt.lst ((nx k).map tP))) (ev_val 0) (b_len c))) (ev_val 1) (decide_eq_true (by rw [l1, l2]; omega))
      · rw [if_neg hl]
        exact ifxF (et_eqI (ev_lenN ktP (kvs := f.map fun p => (p.1, Dt.int p.2)) (ev_val 1) (b_len c)) (ev_lenN ktP (kvs := keys.map fun k => (k, Dt.lst ((nx k).map tP))) (ev_val 0) (b_len c))) ev_non (decide_eq_false (by rw [l1, l2]; omega))
end
end K63

set_option Elab.async false
set_option linter.all false
set_option maxRecDepth 100000
set_option maxHeartbeats 4000000
namespace K63
open PySem PySem.Spec PyProof.Rows L2 Dl
def ranksP (one other : Reel) (gap : Option Int) : Option (List (Pr × Int)) := ranksS (nextP one other gap) (webP one other gap)
def outG (one other : Reel) (gap : Option Int) : Option Int := outP (nextP one other gap) (webP one other gap)
theorem outG_eq (one other : Reel) (gap : Option Int) : outG one other gap = (ranksP one other gap).map fun f => maxD 0 (f.map (·.2)) := rfl
theorem good_web {one other : Reel} (g1 : GoodN one.1) (g2 : GoodN other.1) (gap : Option Int) : GoodW (nextP one other gap) (webP one other gap) := by
  obtain ⟨h1, h2⟩ := webP_ok g1 g2 gap
  have rin : ∀ k ∈ webP one other gap, InP one other k := fun k hk => reach_in g1 g2 ((h2 k).mp hk)
  refine ⟨h1, fun k hk j hj => (h2 j).mpr (.step ((h2 k).mp hk) hj), ?_, fun k hk => ?_⟩
  · have := nodup_sub _ (univP one other) h1 fun k hk => univ_mem (rin k hk).1 (rin k hk).2
    have := univ_len g1 g2
    omega
  · have := next_len g1 g2 (gap := gap) (rin k hk)
    omega
theorem dRank_obj (o : Option (List (Pr × Int))) : ∀ z, dRank o ≠ .obj z := fun z h => by cases o <;> cases h
theorem dRank_non (o : Option (List (Pr × Int))) : (dRank o).isNon = o.isNone := by cases o <;> rfl
theorem out_none (one other : Reel) (gap : Option Int) : (ranksP one other gap).isNone = (outG one other gap).isNone := by
  rw [outG_eq]
  cases ranksP one other gap <;> rfl
def S_need_two : FSpec := fun ds mu o => ∃ one other : Reel, ∃ gap, ds = [dR one, dR other, dGap gap] ∧ GoodR one.1 one.2 ∧ GoodR other.1 other.2 ∧ GoodG gap ∧ o = .ret (.dat .non) mu
def S_pair (res : Reel → Reel → Option Int → Dt) : FSpec := fun ds mu o => ∃ one other : Reel, ∃ gap, ds = [dR one, dR other, dGap gap] ∧ GoodR one.1 one.2 ∧ GoodR other.1 other.2 ∧ GoodG gap ∧ npL mu.length mu = true ∧ o = .ret (.dat (res one other gap)) mu
theorem nn_eq (o : Option (List (Pr × Int))) : (!(dRank o).isNon) = o.isSome := by cases o <;> rfl
section
variable {P : Program} {w : World} {K : PySem.W.Frag} {mg : Str → Option Value} {base : Heap} (c : Fc fa fn tf tl K mg base)
include c
theorem ok_need_two : FnG P w K mg base (tabsOf tf tl K) 6 "need_two" S_need_two := by
  refine fn_DD c d_need_two (g_need_two c) sc_need_two bi_need_two (fun ds mu o ⟨_, _, _, h, _⟩ => by rw [h]; rfl) fun A outer s H E hr ds mu o h => ?_
  obtain ⟨one, other, gap, rfl, g1, g2, gg, rfl⟩ := h
  apply fallen
  refine ss_cons (sd_expr (ev_call (ok_need_reel c) (hr.mono (by decide)) (ea_cons (ev_val 0) ea_nil) (.dat .nil) ⟨one.1, one.2, rfl, g1, rfl⟩)) ?_
  refine ss_cons (sd_expr (ev_call (ok_need_reel c) (hr.mono (by decide)) (ea_cons (ev_val 1) ea_nil) (.dat .nil) ⟨other.1, other.2, rfl, g2, rfl⟩)) ?_
  exact ss_one (sd_expr (ev_call (ok_need_gap c) (hr.mono (by decide)) (ea_cons (ev_val 2) ea_nil) (.dat .nil) ⟨gap, rfl, gg, rfl⟩))
theorem ok_comes_out : FnG P w K mg base (tabsOf tf tl K) 7 "comes_out" (S_pair fun one other gap => .bl (outG one other gap).isSome) := by
  refine fn_DD c d_comes_out (g_comes_out c) sc_comes_out bi_comes_out (fun ds mu o ⟨_, _, _, h, _⟩ => by rw [h]; rfl) fun A outer s H E hr ds mu o h => ?_
  obtain ⟨one, other, gap, rfl, g1, g2, gg, hmu, rfl⟩ := h
  refine ⟨_, .ret, ?_⟩
  refine ss_cons (sd_expr (ev_call (ok_need_two c) hr (ea_cons (ev_val 0) (ea_cons (ev_val 1) (ea_cons (ev_val 2) ea_nil))) (.dat (.dat (.dat .nil))) ⟨one, other, gap, rfl, g1, g2, gg, rfl⟩)) ?_
  refine ss_one (sd_ret (asB (ev_notnon (ev_call (ok_ranks_of c) (hr.mono (by decide)) (ea_cons (ev_call (ok_web_of c) (hr.mono (by decide)) (ea_cons (ev_val 0) (ea_cons (ev_val 1) (ea_cons (ev_val 2) ea_nil))) (.dat (.dat (.dat .nil))) ⟨one, other, gap, rfl, g1, g2, gg, hmu, rfl⟩) ea_nil) (.new .nil) ⟨_, _, rfl, good_web g1.n g2.n gap, rfl⟩) rfl (dRank_obj _)) ?_))
  rw [outG_eq]
  show (!(dRank (ranksP one other gap)).isNon) = _
  cases ranksP one other gap <;> rfl
end
end K63

set_option Elab.async false
set_option linter.all false
set_option maxRecDepth 100000
set_option maxHeartbeats 4000000
/-! DlTk: the last shared object, held by one name, becomes its own; three names at once. -/
namespace Dl
open PySem PySem.Spec PyProof.Rows L2
section
variable {T : Tbs} {X : Cx} {W : WX} {G G2 : List Cell} {mu mu2 : List Dt} {m : Dt} {st : Stmt}
theorem sd_takeG (i : Nat) (h : SD T X W G mu st (.nx G2 (mu2 ++ [m]))) (hl : mu.length ≤ mu2.length) (hi : G2[i]? = some (.val (.ptr mu2.length))) (hG : ((G2.set i .no).all (npC mu2.length)) = true) (hmu : npL mu2.length mu2 = true) (hm : np mu2.length m = true) : SD T X W G mu st (.nx (G2.set i (.own m)) mu2) := by
  refine ps_imp h fun D sg H ⟨B, F, fi, e, q⟩ => ⟨B, F, fi, e, fun F' fi' sg' H' s p e' => ?_⟩
  have l1 := e.lenm
  have l2 := e'.lenm
  rw [List.length_append] at l2
  have l2 : fi'.length = mu2.length + 1 := l2
  obtain ⟨r, rfl⟩ := p
  rw [List.length_append] at l2
  obtain ⟨r', a, rfl⟩ : ∃ r' a, r = r' ++ [a] := by
    have hne : r ≠ [] := fun z => by
      rw [z, List.length_nil] at l2
      omega
    exact ⟨r.dropLast, r.getLast hne, (List.dropLast_concat_getLast hne).symm⟩
  rw [List.length_append] at l2
  have l2 : fi.length + (r'.length + 1) = mu2.length + 1 := l2
  obtain ⟨gi, hgi⟩ : ∃ gi, gi = fi ++ r' := ⟨_, rfl⟩
  rw [← List.append_assoc, ← hgi] at e'
  have lg : gi.length = mu2.length := by
    rw [hgi, List.length_append]
    omega
  have nd := List.nodup_append.mp e'.mm
  have afi : a ∉ gi := fun z => nd.2.2 a z a (List.mem_singleton.mpr rfl) rfl
  have nb : a ∉ B.fi := fun z => afi (by rw [hgi]; exact List.mem_append.mpr (.inl (e.fold a z)))
  have BH : B.H a = none := by
    rcases e'.fpre a (List.mem_append.mpr (.inr (List.mem_singleton.mpr rfl))) with z | z
    · exact absurd z nb
    · exact z
  rw [← lg] at hi hG hmu hm
  have hp : (gi ++ [a])[gi.length]? = some a := List.getElem?_concat_length ..
  have hpm : (mu2 ++ [m])[gi.length]? = some m := by rw [show gi.length = mu2.length by omega]; exact List.getElem?_concat_length ..
  obtain ⟨hF, ho⟩ := e'.obj gi.length a m hp hpm
  have ob : ∀ {x : Addr} {d : Dt}, np gi.length d = true → Ob X.K F' (gi ++ [a]) H' x d → Ob X.K F' gi H' x d := fun {x d} hn k => by
    cases d with
    | lst ds =>
      obtain ⟨vs, h1, h2⟩ := k
      exact ⟨vs, h1, RpL.less (Sub.refl _) rfl h2 hn⟩
    | dic t ks ds =>
      obtain ⟨u, ka, vs, h1, h2, h3, h4⟩ := k
      exact ⟨u, ka, vs, h1, h2, keys_any (Sub.refl _) h2 h3, RpL.less (Sub.refl _) rfl h4 hn⟩
    | _ => exact k.elim
  have ilt : i < G2.length := (List.getElem?_eq_some_iff.mp hi).1
  have cellOk : ∀ {j : Nat} {c : Cell}, j ≠ i → G2[j]? = some c → npC gi.length c = true := fun {j c} hj hc => by
    refine List.all_eq_true.mp hG c (List.mem_of_getElem? (i := j) ?_)
    rw [List.getElem?_set_ne (fun z => hj z.symm)]
    exact hc
  have slotA : sg'[i]? = some (some (.ref a)) := by
    obtain ⟨v, h1, h2⟩ := e'.slot i _ hi
    cases h2 with
    | ptr hq =>
      rw [hp] at hq
      cases hq
      exact h1
  refine q F' gi sg' H' s (hgi ▸ List.prefix_append fi r') ⟨e'.sub, e'.tab, by rw [List.length_set]; exact e'.len, by omega, fun j d hj => ?_, fun j d hj => ?_, fun j b d h1 h2 => ?_, fun j k d d' x h1 h2 h3 h4 => ?_, fun j d x k h1 h2 => ?_, nd.1, e'.frame, fun b hb => ?_, fun b hb => e'.fpre b (List.mem_append.mpr (.inl hb)), e'.fnew⟩
  · by_cases z : j = i
    · subst z
      rw [List.getElem?_set_self ilt] at hj
      cases hj
    · rw [List.getElem?_set_ne (fun y => z y.symm)] at hj
      obtain ⟨v, h1, h2⟩ := e'.slot j d hj
      exact ⟨v, h1, Rp.less (Sub.refl _) rfl h2 (cellOk z hj)⟩
  · by_cases z : j = i
    · subst z
      rw [List.getElem?_set_self ilt] at hj
      cases hj
      exact ⟨a, slotA, hF, ob hm ho, BH⟩
    · rw [List.getElem?_set_ne (fun y => z y.symm)] at hj
      obtain ⟨x, h1, h2, h3, h4⟩ := e'.own j d hj
      exact ⟨x, h1, h2, ob (cellOk z hj) h3, h4⟩
  · have hj : j < gi.length := (List.getElem?_eq_some_iff.mp h1).1
    obtain ⟨k1, k2⟩ := e'.obj j b d (by rw [List.getElem?_append_left hj]; exact h1) (by rw [List.getElem?_append_left (by omega)]; exact h2)
    exact ⟨k1, ob ((npL_iff _ _).mp hmu d (List.mem_of_getElem? h2)) k2⟩
  · by_cases zj : j = i
    · by_cases zk : k = i
      · rw [zj, zk]
      · rw [List.getElem?_set_ne (fun y => zk y.symm)] at h2
        rw [zj, slotA] at h3
        cases h3
        exact absurd hp (e'.om k d' a gi.length h2 h4)
    · rw [List.getElem?_set_ne (fun y => zj y.symm)] at h1
      by_cases zk : k = i
      · rw [zk, slotA] at h4
        cases h4
        exact absurd hp (e'.om j d a gi.length h1 h3)
      · rw [List.getElem?_set_ne (fun y => zk y.symm)] at h2
        exact e'.oo j k d d' x h1 h2 h3 h4
  · by_cases z : j = i
    · rw [z, slotA] at h2
      cases h2
      intro y
      exact afi (List.mem_of_getElem? y)
    · rw [List.getElem?_set_ne (fun y => z y.symm)] at h1
      intro y
      exact e'.om j d x k h1 h2 (by rw [List.getElem?_append_left (List.getElem?_eq_some_iff.mp y).1]; exact y)
  · rcases List.mem_append.mp (e'.fold b hb) with z | z
    · exact z
    · rw [List.mem_singleton.mp z] at hb
      exact absurd hb nb
end
section
variable {T : Tbs} {X : Cx} {W : WX} {G : List Cell} {mu mu1 mu2 mu3 : List Dt} {r1 r2 r3 : Res} {a b c : Expr} {pos : Pos} {d1 d2 d3 : Dt} {x y z : Str}
/-- x, y, z = a, b, c -/
theorem sd_par3 {px py pz pt pt2 : Pos} {kt k2 : Nat} (hc : X.calm = true) (hN : X.N.Nodup) (i j l : Nat) (h1 : EvD T X G mu a r1 mu1) (h2 : EvD T X G mu1 b r2 mu2) (h3 : EvD T X G mu2 c r3 mu3) (hd : Dats [r1, r2, r3] [d1, d2, d3]) (hi : X.N[i]? = some x := by rfl) (hj : X.N[j]? = some y := by rfl) (hl : X.N[l]? = some z := by rfl) (hij : i ≠ j := by decide) (hil : i ≠ l := by decide) (hjl : j ≠ l := by decide)
    (hx : X.env.scope.names.lookup x = some .local := by rfl) (hy : X.env.scope.names.lookup y = some .local := by rfl) (hz : X.env.scope.names.lookup z = some .local := by rfl)
    (he : starEach [a, b, c] X.env = (false, eval a X.env) :: starEach [b, c] X.env := by rfl) (he2 : starEach [b, c] X.env = (false, eval b X.env) :: starEach [c] X.env := by rfl) (he3 : starEach [c] X.env = (false, eval c X.env) :: starEach [] X.env := by rfl)
    (hw : swappedStores [.Tuple [.Name x px, .Name y py, .Name z pz] kt pt] (.Tuple [a, b, c] k2 pt2) X.env = pure (some [x, y, z]) := by rfl)
    (hs : swapsWithSole [.Tuple [.Name x px, .Name y py, .Name z pz] kt pt] (.Tuple [a, b, c] k2 pt2) pos.line X.env = pure false := by rfl) :
    SD T X W G mu (.Assign [.Tuple [.Name x px, .Name y py, .Name z pz] kt pt] (.Tuple [a, b, c] k2 pt2) pos) (.nx (((G.set i (.val d1)).set j (.val d2)).set l (.val d3)) mu3) := by
  refine ps_imp (ps_par3 hc hN hi hj hl hij hil hjl hx hy hz (ea_cons h1 (ea_cons h2 (ea_cons h3 ea_nil he3) he2) he) hw hs) fun D sg H ⟨B, F, fi, e, q⟩ => ⟨B, F, fi, e, fun vs F1 fi1 H1 s1 p1 e1 m1 => ?_⟩
  have m2 := m1.dats hd
  cases m2 with
  | cons q1 q2 =>
    cases q2 with
    | cons q2 q3 =>
      cases q3 with
      | cons q3 q4 =>
        cases q4
        exact ⟨_, _, _, rfl, q F1 fi1 _ H1 s1 p1 (((e1.setV q1).setV q2).setV q3)⟩
end
end Dl

set_option Elab.async false
set_option linter.all false
set_option maxRecDepth 100000
set_option maxHeartbeats 4000000
/-! DlDc: {k: v for t0 in i0 for t1 in i1}. -/
namespace Dc
open PySem PySem.Spec PyProof.Rows L2
/-- the expression -/
abbrev Ex (kx vx t0 i0 t1 i1 : Expr) (sc : Scope) (pos : Pos) : Expr :=
  .DictComp kx vx [⟨t0, i0, [], 0⟩, ⟨t1, i1, [], 0⟩] sc pos
section
variable {kx vx t0 i0 t1 i1 : Expr} {sc : Scope} {pos : Pos}
variable {it : Value} {d : Addr} {env : Env}
theorem turn_a : compTurn (Ex kx vx t0 i0 t1 i1 sc pos) 0 it (.ref d) env = (do
    standAt i0.pos
    let r ← pyNext it
    match r with
    | none => pure (.done .next)
    | some v => do
      letOwnedTupleGo t0 it v
      assign t0 env v
      let x ← eval i1 env
      standAt i1.pos
      let y ← foldedSetIterable i1 env x
      let _ ← runOwn (.compStart (Ex kx vx t0 i0 t1 i1 sc pos) 1 (← holding [y] (pyIter y)) (.ref d) env) env
      again (.compLoop (Ex kx vx t0 i0 t1 i1 sc pos) 0 it (.ref d) env)) := by rfl
theorem turn_b : compTurn (Ex kx vx t0 i0 t1 i1 sc pos) 1 it (.ref d) env = (do
    standAt i1.pos
    let r ← pyNext it
    match r with
    | none => pure (.done .next)
    | some v => do
      letOwnedTupleGo t1 it v
      assign t1 env v
      (do
        let a ← eval kx env
        let b ← holding [a] (eval vx env)
        standAt { kx.pos with endLine := vx.pos.endLine, endCol := vx.pos.endCol }
        holding [a, b] (dictSet d a b))
      again (.compLoop (Ex kx vx t0 i0 t1 i1 sc pos) 1 it (.ref d) env)) := by rfl
end
section
variable {P : Program} {w : World} {A : Around}
variable {R : Result → Shared → Prop} {s : Shared}
variable {kx vx t0 i0 t1 i1 : Expr} {sc : Scope} {pos : Pos}
variable {it : Value} {d : Addr} {env : Env}
/-- a raise within goes out -/
abbrev Er (P : Program) (w : World) (A : Around) (env : Env) (R : Result → Shared → Prop) : Value → Shared → Prop :=
  notedBy (model P w) A env fun x z => R (.error x) z
/-- an item is stored -/
def Takes1 (P : Program) (w : World) (A : Around) (env : Env) (R : Result → Shared → Prop)
    (t : Expr) (it v : Value) (k : Shared → Prop) (s : Shared) : Prop :=
  wpAny (model P w) A (letOwnedTupleGo t it v)
    (fun _ z => wpAny (model P w) A (assign t env v) (fun _ y => k y) (Er P w A env R) z) (Er P w A env R) s
theorem loop_a (hs : ∀ x, foldedSetIterable i1 env x = pure x) (I : Nat → Shared → Prop)
    (h : ∀ n s, I n s → wpAny (model P w) A (pyNext it) (fun r z => match r with
      | none => R (.ok .next) z
      | some v => Takes1 P w A env R t0 it v (fun y =>
          wpAny (model P w) A (eval i1 env) (fun x u => wpAny (model P w) A (pyIter x) (fun j c =>
            codeAny (model P w) A (.compStart (Ex kx vx t0 i0 t1 i1 sc pos) 1 j (.ref d) env)
              (fun r e => match r with | .ok _ => ∃ m, m < n ∧ I m e | .error _ => False) c)
            (Er P w A env R) u) (Er P w A env R) y) z) (Er P w A env R) s)
    (n : Nat) (hn : I n s) : codeAny (model P w) A (.compLoop (Ex kx vx t0 i0 t1 i1 sc pos) 0 it (.ref d) env) R s := by
  refine codeAny_loop rfl I (fun n s hI => ?_) n hn
  show wpAny _ A ((compTurn _ 0 it (.ref d) env).onRaise (fun x => do noteFrame x env; theTreesLotGoes x)) _ _ s
  refine wpAny_noted ?_
  rw [turn_a]
  have hh := h n s hI
  refine wpAny_bind (wpAny_standAt (wpAny_bind (wpAny_mono hh (fun r z q => ?_) fun _ _ e => e)))
  match r, q with
  | none, q => exact wpAny_pure q
  | some v, q =>
    refine wpAny_bind (wpAny_mono q (fun _ y q1 => wpAny_bind (wpAny_mono q1 (fun _ y2 q2 => ?_) fun _ _ e => e)) fun _ _ e => e)
    refine wpAny_bind (wpAny_mono q2 (fun x u q3 => wpAny_bind (wpAny_standAt ?_)) fun _ _ e => e)
    refine wpAny_bind (wpAny_of_eq (hs x) ?_)
    refine wpAny_bind (wpAny_holding (wpAny_mono q3 (fun j c q4 => wpAny_bind (wpAny_runOwn ?_)) fun _ _ e => e))
    rw [Around.mark_none]
    refine codeAny_mono q4 fun r e q5 => ?_
    match r, q5 with
    | .ok f, q5 =>
      first
        | exact wpAny_pure ⟨rfl, q5⟩
        | exact wpAny_bind (wpAny_pure (wpAny_pure ⟨rfl, q5⟩))
    | .error _, q5 => exact q5.elim
theorem loop_b (I : Nat → Shared → Prop)
    (h : ∀ n s, I n s → wpAny (model P w) A (pyNext it) (fun r z => match r with
      | none => R (.ok .next) z
      | some v => Takes1 P w A env R t1 it v (fun y =>
          wpAny (model P w) A (eval kx env) (fun a u => wpAny (model P w) A (eval vx env) (fun b c =>
            wpAny (model P w) A (dictSet d a b) (fun _ e => ∃ m, m < n ∧ I m e) (Er P w A env R) c)
            (Er P w A env R) u) (Er P w A env R) y) z) (Er P w A env R) s)
    (n : Nat) (hn : I n s) : codeAny (model P w) A (.compLoop (Ex kx vx t0 i0 t1 i1 sc pos) 1 it (.ref d) env) R s := by
  refine codeAny_loop rfl I (fun n s hI => ?_) n hn
  show wpAny _ A ((compTurn _ 1 it (.ref d) env).onRaise (fun x => do noteFrame x env; theTreesLotGoes x)) _ _ s
  refine wpAny_noted ?_
  rw [turn_b]
  have hh := h n s hI
  refine wpAny_bind (wpAny_standAt (wpAny_bind (wpAny_mono hh (fun r z q => ?_) fun _ _ e => e)))
  match r, q with
  | none, q => exact wpAny_pure q
  | some v, q =>
    refine wpAny_bind (wpAny_mono q (fun _ y q1 => wpAny_bind (wpAny_mono q1 (fun _ y2 q2 => ?_) fun _ _ e => e)) fun _ _ e => e)
    refine wpAny_bind (wpAny_bind (wpAny_mono q2 (fun a u q3 => wpAny_bind (wpAny_holding ?_)) fun _ _ e => e))
    refine wpAny_mono q3 (fun b c q4 => wpAny_bind (wpAny_standAt (wpAny_holding ?_))) fun _ _ e => e
    exact wpAny_mono q4 (fun _ e q5 => wpAny_pure ⟨rfl, q5⟩) fun _ _ e => e
theorem start_b (h0 : codeAny (model P w) A (.compLoop (Ex kx vx t0 i0 t1 i1 sc pos) 1 it (.ref d) env) R s)
    (h : wpAny (model P w) A (pyIter it) (fun j z => codeAny (model P w) A (.compLoop (Ex kx vx t0 i0 t1 i1 sc pos) 1 j (.ref d) env) R z) (Er P w A env R) s) :
    codeAny (model P w) A (.compStart (Ex kx vx t0 i0 t1 i1 sc pos) 1 it (.ref d) env) R s := by
  refine codeAny_of_tree ?_
  show wpAny _ _ ((compStart _ 1 it (.ref d) env).onRaise (fun x => do noteFrame x env; standAt theWindowsPlace)) _ _ s
  refine wpAny_notedAt ?_
  unfold compStart
  show wpAny _ _ (ask >>= _) _ _ s
  refine wpAny_bind (wpAny_askSetting (wpAny_ite ?_))
  split
  · first
      | exact wpAny_pure ⟨rfl, h0⟩
      | exact wpAny_bind (wpAny_pure (wpAny_pure ⟨rfl, h0⟩))
  · refine wpAny_bind (wpAny_rule ?_)
    show wpAny _ _ (standAt i1.pos >>= _) _ _ s
    exact wpAny_bind (wpAny_standAt (wpAny_bind (wpAny_mono h (fun j z q => wpAny_pure ⟨rfl, q⟩) fun _ _ x => x)))
end
end Dc

set_option Elab.async false
set_option linter.all false
set_option maxRecDepth 100000
set_option maxHeartbeats 4000000
/-! DlDc2: the block of {k: v for t0 in i0 for t1 in i1}, and the rule of the layer. -/
namespace Dc
open PySem PySem.Spec PyProof.Rows L2
section
variable {X : Cx}
/-- what the two loops ask -/
def tD2 (wi : TI) (ga : TG) (wj : TI) (gb : TG) (tk tv : TE) (vs us : List Nat) : TE := fun sl hp Q => wi sl hp fun J h1 => ∀ D, h1 D = none → ∃ V : Nat → Nat → Hp → Prop,
  (∃ m, V 0 m (upd h1 D (.dK []))) ∧ ∀ i m h, V i m h → (J.stop i h ∧ Q (.ref D) h) ∨ (J.go i h ∧ ∃ Nx : Hp → Prop, (∀ h', Nx h' → ∃ m', m' < m ∧ V (i + 1) m' h') ∧
    ∀ x h', J.yld i h x h' → ga x (wipe sl vs) h' fun sa ha => wipe sa vs = wipe sl vs ∧ wj sa ha fun J1 h4 => ∃ V1 : Nat → Nat → Hp → Prop, (∃ m, V1 0 m h4) ∧ ∀ j k h, V1 j k h →
      (J1.stop j h ∧ Nx h) ∨ (J1.go j h ∧ ∃ Ny : Hp → Prop, (∀ h', Ny h' → ∃ k', k' < k ∧ V1 (j + 1) k' h') ∧ ∀ x h', J1.yld j h x h' → gb x (wipe sa us) h' fun sb hb => wipe sb us = wipe sa us ∧
        tk sb hb fun y h6 => tv sb h6 fun z h7 => ∃ kvs k, y = kV k ∧ h7 D = some (.dK kvs) ∧ kvs.length < sizeLine ∧ Ny (upd h7 D (.dK (putK kvs k z)))))
/-- in each block -/
abbrev Each (X : Cx) (scope : Scope) (Y : Cx → Prop) : Prop := ∀ (z : Shared) (h : Hp) (c : Addr) (l : List (Str × Addr)) (f : List Addr), Y (X.blk z h scope (compEnvC scope l c X.env) f)
theorem core {kx vx t0 i0 t1 i1 : Expr} {scope : Scope} {own : List (Str × Nat)} {us : List Nat} {pos pos' : Pos} {wi wj : TI} {ga gb : TG} {tk tv : TE} {sl : L2.St} {hp : Hp} {Q : VK} {pn : List (Addr × Obj)} {s : Shared} {Qf : Value → Shared → Prop}
    (calm : X.calm = true) (nd : X.N.Nodup) (I : Inv X pn sl hp s) (p0 : PI X t0 i0 wi) (ok : BlkOk X.N X.env.scope scope own) (hu : ∀ i ∈ us, i ∈ own.map (·.2))
    (q0 : Each X scope fun Y => PG Y t0 ga) (p1 : Each X scope fun Y => PI Y t1 i1 wj) (q1 : Each X scope fun Y => PG Y t1 gb) (qk : Each X scope fun Y => PE Y kx tk) (qv : Each X scope fun Y => PE Y vx tv)
    (f0 : ∀ x, foldedSetIterable i0 X.env x = pure x) (f1 : ∀ env x, foldedSetIterable i1 env x = pure x) (h : tD2 wi ga wj gb tk tv (own.map (·.2)) us sl hp Q)
    (out : ∀ D C z m h', Inv X pn sl h' z → Q (.ref D) h' → z.heap.Ns C m → FpOk X pn h' C → compPost (model X.prog X.w) X.A X.xe none Qf (.ref D) C (.ok .next) z) :
    wpAny (model X.prog X.w) X.A (comprehension (Ex kx vx t0 i0 t1 i1 scope pos) scope X.env pos' newDict false (eval i0 X.env) none) Qf X.xe s := by
  have cl0 : ∀ y ∈ scope.names, y.2 = .free → ∃ c, X.env.cells.lookup y.1 = some c := fun y hy e =>
    (ok.free y hy e).elim (fun k => I.ok.has _ (.inl k)) (fun k => I.ok.has _ (.inr k))
  refine wpAny_comprehension_free (use := none) rfl f0 (closure_ok cl0) ok.kind (fun y hy e => by rw [ok.uniq y hy, e]) ?_
  refine thn (p0.run pn s sl hp _ I h) fun _ _ hx => thn hx fun _ z2 h2 => ?_
  obtain ⟨it, fp, tn, J, hp2, rfl, I2, T, st2, fo2, q⟩ := h2
  refine wpAny_newObj_type (newEnv_comp ?_)
  obtain ⟨D, hD⟩ : ∃ D, z2.heap.objs.size = D := ⟨_, rfl⟩
  rw [hD]
  have fr : hp2 D = none := I2.hok.fresh (Nat.le_of_eq hD)
  obtain ⟨V, ⟨m0, v0⟩, turn⟩ := q D fr
  -- the dict is laid
  obtain ⟨z3, hz3⟩ : ∃ z3 : Shared, ({ z2 with heap := z2.heap.push { cls := .type "dict", data := .dict #[] } } : Shared) = z3 := ⟨_, rfl⟩
  rw [hz3]
  have I3 : Inv X pn sl (upd hp2 D (.dK [])) z3 := by
    rw [← hz3]
    refine I2.laid (t' := z2.toks) (fun _ _ e => Heap.get?_push_of_some _ e) (Nat.le_of_eq hD) ?_
    rw [← hD]
    exact dk_empty z2.heap I2.big
  have kp3 : ∀ b o, z2.heap.get? b = some o → z3.heap.get? b = some o := fun b o e => by
    rw [← hz3]
    exact Heap.get?_push_of_some _ e
  have sz3 : z3.heap.objs.size = z2.heap.objs.size + 1 := by
    rw [← hz3]
    exact Heap.size_push _ _
  have fo3 : ∀ b ∈ fp, FpOk X pn (upd hp2 D (.dK [])) b ∧ b < z3.heap.objs.size := fun b hb => by
    obtain ⟨o, e, _⟩ := T.obj _ _ st2 b hb
    have lt := Heap.lt_size e
    refine ⟨⟨?_, (fo2 b hb).2⟩, by rw [sz3]; exact Nat.lt_succ_of_lt lt⟩
    rw [upd_ne (by rw [← hD]; exact Nat.ne_of_lt lt)]
    exact (fo2 b hb).1
  have st3 : tn 0 z3.heap := T.keep _ _ _ st2 fun b _ o e => kp3 b o e
  have I4 := block_start I3 ok nd fo3
  obtain ⟨C, hC⟩ : ∃ C, z3.heap.objs.size = C := ⟨_, rfl⟩
  rw [hC] at I4 ⊢
  obtain ⟨l, hl⟩ : ∃ l, cellsFrom (C + 1) scope.names (cloFrom X.env.cells scope.names []) = l := ⟨_, rfl⟩
  rw [hl] at I4 ⊢
  have nf : ∀ b ∈ fp, (upd hp2 D (.dK [])) b = none := fun b hb => (fo3 b hb).1.1
  obtain ⟨h3, eh3⟩ : ∃ h3, upd hp2 D (.dK []) = h3 := ⟨_, rfl⟩
  rw [eh3] at I3 I4 v0 nf fo3
  have b0 := q0 z3 h3 C l fp
  have b1 := p1 z3 h3 C l fp
  have b2 := q1 z3 h3 C l fp
  have b3 := qk z3 h3 C l fp
  have b4 := qv z3 h3 C l fp
  show codeAny _ _ (.compStart (Ex kx vx t0 i0 t1 i1 scope pos) 0 (.ref it) (.ref D) (compEnvC scope l C X.env)) (compPost (model X.prog X.w) X.A X.xe none Qf (.ref D) C)
    { z3 with heap := pushCells (z3.heap.push { cls := .type "dict", data := .dict #[] }) scope.names }
  obtain ⟨ce, ece⟩ : ∃ ce, compEnvC scope l C X.env = ce := ⟨_, rfl⟩
  rw [ece] at I4 b0 b1 b2 b3 b4 ⊢
  have lc : ce.locals = C := by rw [← ece]; rfl
  obtain ⟨z4, hz4⟩ : ∃ z4 : Shared, ({ z3 with heap := pushCells (z3.heap.push { cls := .type "dict", data := .dict #[] }) scope.names } : Shared) = z4 := ⟨_, rfl⟩
  rw [hz4] at I4 ⊢
  have st4 : tn 0 z4.heap := T.keep _ _ _ st3 fun b _ o e => by
    rw [← hz4]
    exact pushCells_keeps _ _ _ _ (Heap.get?_push_of_some _ e)
  have foB : ∀ {sl' : L2.St} {h' : Hp} {z : Shared}, Inv (X.blk z3 h3 scope ce fp) [] sl' h' z → (∀ b ∈ fp, h' b = none) → ∀ b ∈ fp, FpOk (X.blk z3 h3 scope ce fp) [] h' b := fun {sl' h' z} I' hn b hb =>
    ⟨hn b hb, (I'.ok.exf b hb).1, I'.ok.exfs b hb, .inl hb, fun x c e => (I'.ok.exf b hb).2 x c e, fun p hp => absurd (show p ∈ ([] : List (Addr × Obj)) ++ [] from hp) (by simp)⟩
  let Home : Nat → Shared → Prop := fun n z => ∃ i h', Inv (X.blk z3 h3 scope ce fp) [] (wipe sl (own.map (·.2))) h' z ∧ tn i z.heap ∧ (∀ b ∈ fp, h' b = none) ∧ V i n h'
  have big : codeAny (model X.prog X.w) X.A (.compLoop (Ex kx vx t0 i0 t1 i1 scope pos) 0 (.ref it) (.ref D) ce) (compPost (model X.prog X.w) X.A X.xe none Qf (.ref D) C) z4 := by
    refine loop_a (f1 ce) Home ?_ m0 ⟨0, h3, I4, st4, nf, v0⟩
    rintro n z5 ⟨i, h5, I5, st5, n5, v5⟩
    rcases turn i n h5 v5 with ⟨stop, qq⟩ | ⟨go, Nx, hNx, step⟩
    · refine thnF (T.done (X.blk z3 h3 scope ce fp) rfl rfl rfl calm i [] z5 _ h5 (fun _ _ => False) I5 (foB I5 n5) st5 stop) fun r z6 ⟨hr, I6⟩ => ?_
      subst hr
      have I7 : Inv X pn sl h5 z6 := I3.call' (ch := fp) I6.os I6.base I6.hok I6.bare fun b hb =>
        have k := (fo3 b hb).1.2
        ⟨k.2.2.1, k.1, k.2.2.2.1, k.2.2.2.2⟩
      have nC : h5 C = none := by
        rw [← lc]
        exact I6.free
      obtain ⟨m, hn, _⟩ := I6.loc
      rw [show (X.blk z3 h3 scope ce fp).env.locals = C from lc] at hn
      exact out D C z6 m h5 I7 qq hn (I3.fpOk (Nat.le_of_eq hC) nC)
    · refine thnF (T.item (X.blk z3 h3 scope ce fp) rfl rfl rfl calm i [] z5 _ h5 (fun _ _ => False) I5 (foB I5 n5) st5 go) fun r z6 ⟨u, hr, h6⟩ => ?_
      subst hr
      refine thnF h6 fun _ z7 ⟨x, h7, I7, r7, y7, st7, n7⟩ => ?_
      have J7 := I7.pinned (foB I7 n7) (T.obj _ _ st7)
      refine thnF (b0.run _ z7 _ h7 x u _ J7 r7 (step x h7 y7)) fun _ z8 ⟨sa, h8, I8, w8, q8⟩ => ?_
      have back : ∀ {s9 : L2.St} {z : Shared} {h' : Hp}, Inv (X.blk z3 h3 scope ce fp) ([] ++ pinsAt fp z7.heap) s9 h' z → (wipe sl (own.map (·.2))).length = s9.length → (∀ (j : Nat) v, (wipe sl (own.map (·.2)))[j]? = some (some v) → s9[j]? = some (some v)) → Nx h' → ∃ m, m < n ∧ Home m z := fun {s9 z h'} I' e1 e2 nx => by
        obtain ⟨m', hm, v'⟩ := hNx h' nx
        have pin : ∀ b ∈ fp, ∀ o, z7.heap.get? b = some o → z.heap.get? b = some o ∧ h' b = none := fun b hb o e =>
          have k := I'.pin (b, o) (List.mem_append_right _ (List.mem_append_right _ (mem_pinsAt hb e)))
          ⟨k.1, k.2.1⟩
        refine ⟨m', hm, i + 1, h', (I'.unpinned (pins := [])).weak e1 e2, T.keep _ _ _ st7 fun b hb o e => (pin b hb o e).1, fun b hb => ?_, v'⟩
        obtain ⟨o, e, _⟩ := T.obj _ _ st7 b hb
        exact (pin b hb o e).2
      have l8 : (wipe sl (own.map (·.2))).length = sa.length := by rw [← w8, wipe_length]
      have k9 : ∀ (j : Nat) v, (wipe sl (own.map (·.2)))[j]? = some (some v) → (wipe sa us)[j]? = some (some v) := fun j v e => by
        rw [← w8] at e
        obtain ⟨e1, e2⟩ := wipe_some e
        rw [wipe_out fun y => e2 (hu j y)]
        exact e1
      refine thnF (b1.run _ z8 sa h8 _ I8 q8) fun _ _ hx => thnF hx fun _ z11 h11 => ?_
      obtain ⟨it1, fp1, tn1, J1, hp11, rfl, I11, T1, st11, fo11, V1, ⟨m1, v1⟩, turn1⟩ := h11
      have foC : ∀ {h' : Hp}, (∀ b ∈ fp1, h' b = none) → ∀ b ∈ fp1, FpOk (X.blk z3 h3 scope ce fp) ([] ++ pinsAt fp z7.heap) h' b := fun hn b hb => ⟨hn b hb, (fo11 b hb).2⟩
      have small : codeAny (model X.prog X.w) X.A (.compLoop (Ex kx vx t0 i0 t1 i1 scope pos) 1 (.ref it1) (.ref D) ce) (fun r z => match r with | .ok _ => ∃ m, m < n ∧ Home m z | .error _ => False) z11 := by
        refine loop_b (fun k z => ∃ j h', Inv (X.blk z3 h3 scope ce fp) ([] ++ pinsAt fp z7.heap) (wipe sa us) h' z ∧ tn1 j z.heap ∧ (∀ b ∈ fp1, h' b = none) ∧ V1 j k h') ?_ m1 ⟨0, hp11, I11.weak (wipe_length _ _) (fun _ _ e => (wipe_some e).1), st11, fun b hb => (fo11 b hb).1, v1⟩
        rintro k z12 ⟨j, h12, I12, st12, n12, v12⟩
        rcases turn1 j k h12 v12 with ⟨stop1, nx1⟩ | ⟨go1, Ny, hNy, step1⟩
        · refine thnF (T1.done (X.blk z3 h3 scope ce fp) rfl rfl rfl calm j _ z12 (wipe sa us) h12 (fun _ _ => False) I12 (foC n12) st12 stop1) fun r z13 ⟨hr, I13⟩ => ?_
          subst hr
          exact back I13 (l8.trans (wipe_length sa us).symm) k9 nx1
        · refine thnF (T1.item (X.blk z3 h3 scope ce fp) rfl rfl rfl calm j _ z12 (wipe sa us) h12 (fun _ _ => False) I12 (foC n12) st12 go1) fun r z13 ⟨u1, hr, h13⟩ => ?_
          subst hr
          refine thnF h13 fun _ z14 ⟨x1, h14, I14, r14, y14, st14, n14⟩ => ?_
          have J14 := I14.pinned (foC n14) (T1.obj _ _ st14)
          refine thnF (b2.run _ z14 (wipe sa us) h14 x1 u1 _ J14 r14 (step1 x1 h14 y14)) fun _ z15 ⟨sb, h15, I15, w15, q15⟩ => ?_
          refine thnF (b3.run _ z15 sb h15 _ I15 q15) fun _ z16 ⟨yk, h16, I16, r16, q16⟩ => ?_
          refine thnF (b4.run _ z16 sb h16 _ I16 q16) fun _ z17 ⟨yv, h17, I17, r17, kvs, key, ek, hD17, hz17, ny⟩ => ?_
          subst ek
          refine d_dictSet (X := X.blk z3 h3 scope ce fp) I17 hD17 hz17 r16 r17 fun z18 I18 => ?_
          obtain ⟨m', hm, v'⟩ := hNy _ ny
          have pin : ∀ b ∈ fp1, ∀ o, z14.heap.get? b = some o → z18.heap.get? b = some o ∧ (upd h17 D (.dK (putK kvs key yv))) b = none := fun b hb o e =>
            have k := I18.pin (b, o) (List.mem_append_right _ (List.mem_append_right _ (mem_pinsAt hb e)))
            ⟨k.1, k.2.1⟩
          refine ⟨m', hm, j + 1, _, I18.unpinned.weak (by rw [← w15, wipe_length]) (fun _ _ e => by rw [← w15] at e; exact (wipe_some e).1), T1.keep _ _ _ st14 fun b hb o e => (pin b hb o e).1, fun b hb => ?_, v'⟩
          obtain ⟨o, e, _⟩ := T1.obj _ _ st14 b hb
          exact (pin b hb o e).2
      exact start_b small (T1.self X.A 0 _ _ _ st11 small)
  exact codeAny_compStart_dict big (T.self X.A 0 _ _ _ st4 big)
/-- as a value -/
theorem pe_d2 {kx vx t0 i0 t1 i1 : Expr} {scope : Scope} {own : List (Str × Nat)} {us : List Nat} {pos : Pos} {wi wj : TI} {ga gb : TG} {tk tv : TE}
    (calm : X.calm = true) (nd : X.N.Nodup) (p0 : PI X t0 i0 wi) (ok : BlkOk X.N X.env.scope scope own) (hu : ∀ i ∈ us, i ∈ own.map (·.2))
    (q0 : Each X scope fun Y => PG Y t0 ga) (p1 : Each X scope fun Y => PI Y t1 i1 wj) (q1 : Each X scope fun Y => PG Y t1 gb) (qk : Each X scope fun Y => PE Y kx tk) (qv : Each X scope fun Y => PE Y vx tv)
    (f0 : ∀ x, foldedSetIterable i0 X.env x = pure x := by intro _; rfl) (f1 : ∀ env x, foldedSetIterable i1 env x = pure x := by intro _ _; rfl) :
    PE X (Ex kx vx t0 i0 t1 i1 scope pos) (tD2 wi ga wj gb tk tv (own.map (·.2)) us) := by
  refine ⟨fun pn s sl hp Q I h => ?_⟩
  rw [arm_eval_DictComp]
  refine core calm nd I p0 ok hu q0 p1 q1 qk qv f0 f1 h fun D C z m h' I' q hn f => ⟨m, hn, fun hh sb => ?_⟩
  exact ⟨.ref D, h', I'.turned (t' := z.toks) (fun b _ hb e => (sb.2 b hb).trans e) f.1 f.2.1 f.2.2.2.1 f.2.2.2.2.1 f.2.2.2.2.2, rfl, q⟩
end
end Dc

set_option Elab.async false
set_option linter.all false
set_option maxRecDepth 100000
set_option maxHeartbeats 4000000
/-! DlDc3: dict comprehensions of two clauses; d[k] on plain dicts. -/
namespace Dl
open PySem PySem.Spec PyProof.Rows L2
section
variable {T : Tbs} {X : Cx} {G G' : List Cell} {mu mu1 mu2 mu3 : List Dt} {t0 i0 t1 i1 kx vx : Expr} {scope : Scope} {own : List (Str × Nat)} {pos : Pos} {d r : Dt} {ds rs : List Dt}
/-- the inner turns: from what the dict holds to what it holds behind -/
inductive To1 (T : Tbs) (X : Cx) (scope : Scope) (us : List Nat) (G : List Cell) (mu : List Dt) (t1 kx vx : Expr) : List Dt → List (Key × Dt) → List (Key × Dt) → Prop
  | nil {kvs : List (Key × Dt)} : To1 T X scope us G mu t1 kx vx [] kvs kvs
  | take {d v : Dt} {ds : List Dt} {k : Key} {kvs r : List (Key × Dt)} {G' : List Cell} {ix : List Nat} : BlkAll X scope (fun Y => PG Y t1 (rdG X.K T G mu d G' ix)) → (∀ j ∈ ix, j ∈ us) → wipeC G' us = G →
      BlkAll X scope (fun Y => PE Y kx (rd X.K T G' mu (.dat (keyD k)) mu)) → BlkAll X scope (fun Y => PE Y vx (rd X.K T G' mu (.dat v) mu)) → kvs.length < 1000000 → To1 T X scope us G mu t1 kx vx ds (putA kvs k v) r → To1 T X scope us G mu t1 kx vx (d :: ds) kvs r
inductive To2 (T : Tbs) (X : Cx) (scope : Scope) (vs us : List Nat) (G : List Cell) (mu : List Dt) (t0 t1 i1 kx vx : Expr) : List Dt → List (Key × Dt) → List (Key × Dt) → Prop
  | nil {kvs : List (Key × Dt)} : To2 T X scope vs us G mu t0 t1 i1 kx vx [] kvs kvs
  | take {d : Dt} {ds ds1 : List Dt} {kvs k1 r : List (Key × Dt)} {G' : List Cell} {ix : List Nat} : BlkAll X scope (fun Y => PG Y t0 (rdG X.K T G mu d G' ix)) → (∀ j ∈ ix, j ∈ vs) → wipeC G' vs = G →
      BlkAll X scope (fun Y => PI Y t1 i1 (rdI X.K T G' mu ds1 mu)) → (∀ j ∈ vs, ∀ m, G'[j]? ≠ some (.own m)) → To1 T X scope us (wipeC G' us) mu t1 kx vx ds1 kvs k1 → To2 T X scope vs us G mu t0 t1 i1 kx vx ds k1 r → To2 T X scope vs us G mu t0 t1 i1 kx vx (d :: ds) kvs r
/-- the dict at D holds what is done -/
def CD (K : PySem.W.Frag) (T : Tbs) (B : Bs) (sg : L2.St) (G : List Cell) (D : Addr) (F1 : Hp) (fi1 : List Addr) (kvs : List (Key × Dt)) (mu : List Dt) (H : Hp) : Prop :=
  ∃ F' fi', Sub F1 F' ∧ fi1 <+: fi' ∧ DE K T B F' fi' sg H G mu ∧ RpR K B F' fi' sg H G (.ref D) (.new (dicK kvs))
theorem KvD.keep {K : PySem.W.Frag} {F F' : Hp} {fi fi' : List Addr} {κ : Type} [DecidableEq κ] (s : Sub F F') (p : fi <+: fi') {xs : List (κ × V)} {ys : List (κ × Dt)} (h : KvD K F fi xs ys) : KvD K F' fi' xs ys := by
  induction h with
  | nil => exact .nil
  | cons q _ ih => exact .cons (q.mono s p) ih
/-- a step of the dict's comprehension, from F3 -/
theorem dict_fin {K : PySem.W.Frag} {B : Bs} {sg sg4 : L2.St} {G4 : List Cell} {D : Addr} {kvs : List (Key × Dt)} {mu4 : List Dt} {F3 F4 : Hp} {fi2 fi4 : List Addr} {H3 H4 : Hp} (e3 : DE K T B F3 fi2 sg H3 G mu) (n3 : RpR K B F3 fi2 sg H3 G (.ref D) (.new (dicK kvs)))
    (e4 : DE K T (Bs.now F3 fi2 sg H3 G) F4 fi4 sg4 H4 G4 mu4) (s : Sub F3 F4) (p : fi2 <+: fi4) (home : DE K T (Bs.now F3 fi2 sg H3 G) F4 fi4 sg H4 G mu4) : DE K T B F4 fi4 sg H4 G mu4 ∧ RpR K B F4 fi4 sg H4 G (.ref D) (.new (dicK kvs)) := by
  obtain ⟨D', zD, n1, ho, n4, n5, n6⟩ := n3
  cases zD
  obtain ⟨xs, n2, n2'⟩ := ob_viewK ho
  have notOwn : ¬ IsOwn sg G D := fun ⟨j, c, z1, z2⟩ => n4 j c z1 z2
  have notT : D ∉ T := e3.tabne n2 fun q z => by cases z
  have notFi : D ∉ fi2 := fun z => by
    obtain ⟨j, hj, ej⟩ := List.getElem_of_mem z
    exact n5 j (by rw [List.getElem?_eq_getElem hj, ej])
  have hb : (Bs.now F3 fi2 sg H3 G).H D = some (.dK xs) := by rw [now_not notOwn]; exact n2
  refine ⟨e3.then home s, D, rfl, ?_, ob_ofK (e4.frame D _ hb notFi notT) (n2'.keep s p), n4, fun j z => ?_, n6⟩
  · cases z : F4 D with
    | none => rfl
    | some u =>
      rcases e4.fnew D u z with y | y
      · have y' : F3 D = some u := y
        rw [n1] at y'
        cases y'
      · rw [hb] at y
        cases y
  · rcases e4.fpre D (List.mem_of_getElem? z) with y | y
    · exact notFi y
    · rw [hb] at y
      cases y
theorem dict_more {K : PySem.W.Frag} {B : Bs} {sg : L2.St} {D : Addr} {kvs : List (Key × Dt)} {F : Hp} {fi : List Addr} {H : Hp} {k : Key} {y : V} (e : DE K T B F fi sg H G mu) (h : RpR K B F fi sg H G (.ref D) (.new (dicK kvs))) (hy : Rp K F fi y r) (hz : kvs.length < 1000000) :
    ∃ xs, H D = some (.dK xs) ∧ xs.length < sizeLine ∧ DE K T B F fi sg (upd H D (.dK (putK xs k y))) G mu ∧ RpR K B F fi sg (upd H D (.dK (putK xs k y))) G (.ref D) (.new (dicK (putA kvs k r))) := by
  obtain ⟨D', zD, n1, ho, n4, n5, n6⟩ := h
  cases zD
  obtain ⟨xs, n2, n2'⟩ := ob_viewK ho
  have hl : xs.length = kvs.length := by
    have := congrArg List.length n2'.rpl.2
    rwa [List.length_map, List.length_map] at this
  refine ⟨xs, n2, ?_, e.touchO _ n1 n6 n4 n5 (e.tabne n2 fun q z => by cases z), D, rfl, n1, ob_ofK upd_same (n2'.put k hy), n4, n5, n6⟩
  rw [hl]
  exact Nat.lt_of_lt_of_le hz (by rw [sizeLine_eq]; decide)
theorem new_wipeD {K : PySem.W.Frag} {B : Bs} {sg : L2.St} {vs : List Nat} {F : Hp} {fi : List Addr} {H : Hp} {v : V} {m : Dt} (h : RpR K B F fi sg H G v (.new m)) : RpR K B F fi (wipe sg vs) H (wipeC G vs) v (.new m) := by
  obtain ⟨p, rfl, n1, n2, n4, n5, n6⟩ := h
  refine ⟨p, rfl, n1, n2, fun j c hj => ?_, n5, n6⟩
  rw [wipeC_get] at hj
  rw [wipe_get]
  by_cases z : j ∈ vs
  · rw [if_pos z] at hj
    split at hj <;> cases hj
  · rw [if_neg z] at hj ⊢
    exact n4 j c hj
/-- the way home from a block's slots -/
theorem home_of {K : PySem.W.Frag} {vs ix : List Nat} {F3 F4 : Hp} {fi2 fi4 : List Addr} {sg sg4 : L2.St} {H3 H4 : Hp} {G4 : List Cell} {mu4 : List Dt} (e4 : DE K T (Bs.now F3 fi2 (wipe sg vs) H3 (wipeC G vs)) F4 fi4 sg4 H4 G4 mu4) (b4 : But ix (wipe sg vs) sg4) (hix : ∀ j ∈ ix, j ∈ vs) (hw : wipeC G4 vs = wipeC G vs) :
    DE K T (Bs.now F3 fi2 (wipe sg vs) H3 (wipeC G vs)) F4 fi4 (wipe sg vs) H4 (wipeC G vs) mu4 := by
  have e5 := e4.wipe vs
  rw [wipe_but b4 hix, wipe_wipe, hw] at e5
  exact e5
theorem walk_in {B : Bs} {sg : L2.St} {us : List Nat} {D : Addr} {F1 : Hp} {fi1 : List Addr} {H0 : Hp} {kvs rk : List (Key × Dt)} {J : It} (fd : Feeds X.K J F1 fi1 ds) (ct : To1 T X scope us (wipeC G us) mu t1 kx vx ds kvs rk)
    (st : CD X.K T B (wipe sg us) (wipeC G us) D F1 fi1 kvs mu H0) {Qd : Hp → Prop} (hq : ∀ H, CD X.K T B (wipe sg us) (wipeC G us) D F1 fi1 rk mu H → Qd H) :
    ∃ V1 : Nat → Nat → Hp → Prop, (∃ m, V1 0 m H0) ∧ ∀ j k h, V1 j k h → (J.stop j h ∧ Qd h) ∨ (J.go j h ∧ ∃ Ny : Hp → Prop, (∀ h', Ny h' → ∃ k', k' < k ∧ V1 (j + 1) k' h') ∧ ∀ x h', J.yld j h x h' → gU X scope t1 x (wipe sg us) h' fun sb hb => wipe sb us = wipe sg us ∧
      eU X scope kx sb hb fun y h6 => eU X scope vx sb h6 fun z h7 => ∃ kvs k, y = kV k ∧ h7 D = some (.dK kvs) ∧ kvs.length < sizeLine ∧ Ny (upd h7 D (.dK (putK kvs k z)))) := by
  refine ⟨fun i m H => m = ds.length - i ∧ i ≤ ds.length ∧ ∃ dn, To1 T X scope us (wipeC G us) mu t1 kx vx (ds.drop i) dn rk ∧ CD X.K T B (wipe sg us) (wipeC G us) D F1 fi1 dn mu H, ⟨_, rfl, Nat.zero_le _, kvs, ct, st⟩, ?_⟩
  rintro i m H2 ⟨rfl, hi2, dn, hct, F2, fi2, s2, p2, e2, h2⟩
  by_cases hlt : i < ds.length
  · have hd : ds[i]? = some ds[i] := List.getElem?_eq_getElem hlt
    rw [List.drop_eq_getElem_cons hlt] at hct
    obtain ⟨g1, g2⟩ := fd.go i ds[i] H2 (s2.trans e2.sub) hd
    refine .inr ⟨g1, fun H' => ∃ dn, To1 T X scope us (wipeC G us) mu t1 kx vx (ds.drop (i + 1)) dn rk ∧ CD X.K T B (wipe sg us) (wipeC G us) D F1 fi1 dn mu H', fun H' hH => ⟨ds.length - (i + 1), by omega, rfl, hlt, hH⟩, fun x H3 hy => ?_⟩
    obtain ⟨F3, s3, e3, h3, n3⟩ := Yl.at2 e2 ((g2 x H3 hy).mono s2 p2) h2
    cases hct with
    | take hg1 hix hw1 hk1 hv1 hlen hrest =>
      refine ⟨_, hg1, _, F3, fi2, e3.now, h3, fun F4 fi4 sg4 H4 s4 p4 e4 b4 => ⟨(wipe_but b4 hix).trans wipe_wipe, _, hk1, _, F4, fi4, e4, fun y F5 fi5 H5 s5 p5 e5 h5 => ⟨_, hv1, _, F5, fi5, e5, fun z F6 fi6 H6 s6 p6 e6 h6 => ?_⟩⟩⟩
      rename_i v key G' ix
      obtain ⟨d1, d2⟩ := dict_fin e3 n3 e6 ((s4.trans s5).trans s6) ((p4.trans p5).trans p6) (home_of e6 b4 hix hw1)
      have hyk : y = kV key := by
        cases key <;> (cases h5; rfl)
      obtain ⟨xs, a1, a2, a3, a4⟩ := dict_more (k := key) d1 d2 h6 hlen
      exact ⟨xs, key, hyk, a1, a2, _, hrest, F6, fi6, (((s2.trans s3).trans s4).trans s5).trans s6, ((p2.trans p4).trans p5).trans p6, a3, a4⟩
  · have ei : i = ds.length := by omega
    subst ei
    rw [List.drop_length] at hct
    cases hct
    exact .inl ⟨fd.stop H2 (s2.trans e2.sub), hq H2 ⟨F2, fi2, s2, p2, e2, h2⟩⟩
theorem d2_read {vs us : List Nat} {rk : List (Key × Dt)} (hv : ∀ j ∈ vs, ∀ m, G[j]? ≠ some (.own m)) (h11 : ∀ j ∈ us, j ∈ vs) (ht : To2 T X scope vs us (wipeC G vs) mu1 t0 t1 i1 kx vx ds [] rk) {sg : L2.St} {H : Hp} {Q : VK} (h : rd X.K T G mu (.new (dicK rk)) mu1 sg H Q) :
    Dc.tD2 (rdI X.K T G mu ds mu1) (gU X scope t0) (iU X scope t1 i1) (gU X scope t1) (eU X scope kx) (eU X scope vx) vs us sg H Q := by
  obtain ⟨B, F, fi, e, q⟩ := h
  refine ⟨B, F, fi, e, fun F1 fi1 H1 J s1 p1 e1 fd D hD => ?_⟩
  refine ⟨fun i m H => m = ds.length - i ∧ i ≤ ds.length ∧ ∃ dn, To2 T X scope vs us (wipeC G vs) mu1 t0 t1 i1 kx vx (ds.drop i) dn rk ∧ CD X.K T B (wipe sg vs) (wipeC G vs) D F1 fi1 dn mu1 H, ?_, ?_⟩
  · obtain ⟨e2, h2⟩ := (e1.wipe vs).newD hD (t := false) (u := .dK []) (ks := []) (ka := []) (vs := []) (ds := []) ⟨rfl, rfl, rfl⟩ .nil .nil
    exact ⟨_, rfl, Nat.zero_le _, [], ht, F1, fi1, Sub.refl F1, List.prefix_refl _, e2, h2⟩
  rintro i m H2 ⟨rfl, hi2, dn, hct, F2, fi2, s2, p2, e2, h2⟩
  by_cases hlt : i < ds.length
  · have hd : ds[i]? = some ds[i] := List.getElem?_eq_getElem hlt
    rw [List.drop_eq_getElem_cons hlt] at hct
    obtain ⟨g1, g2⟩ := fd.go i ds[i] H2 (s2.trans e2.sub) hd
    refine .inr ⟨g1, fun H' => ∃ dn, To2 T X scope vs us (wipeC G vs) mu1 t0 t1 i1 kx vx (ds.drop (i + 1)) dn rk ∧ CD X.K T B (wipe sg vs) (wipeC G vs) D F1 fi1 dn mu1 H', fun H' hH => ⟨ds.length - (i + 1), by omega, rfl, hlt, hH⟩, fun x H3 hy => ?_⟩
    obtain ⟨F3, s3, e3, h3, n3⟩ := Yl.at2 e2 ((g2 x H3 hy).mono s2 p2) h2
    cases hct with
    | take hg1 hix hw1 hi1 hv1 hin hrest =>
      refine ⟨_, hg1, _, F3, fi2, e3.now, h3, fun F4 fi4 sg4 H4 s4 p4 e4 b4 => ⟨(wipe_but b4 hix).trans wipe_wipe, _, hi1, _, F4, fi4, e4, fun F6 fi6 H6 J1 s6 p6 e6 fd1 => ?_⟩⟩
      obtain ⟨d1, d2⟩ := dict_fin e3 n3 e6 (s4.trans s6) (p4.trans p6) (home_of e6 b4 hix hw1)
      have ws : wipe sg4 vs = wipe sg vs := (wipe_but b4 hix).trans wipe_wipe
      rw [← ws, ← hw1] at d1 d2
      have e7 := e6.unwipe d1 (Sub.refl F6) (List.prefix_refl _) hv1
      have n7 := new_unwipe hv1 d2
      refine walk_in fd1 hin ⟨F6, fi6, Sub.refl F6, List.prefix_refl _, e7.wipe us, new_wipeD n7⟩ fun H7 hc => ?_
      obtain ⟨F8, fi8, s8, p8, e8, n8⟩ := hc
      have e9 := e8.wipe vs
      have n9 := new_wipeD (vs := vs) n8
      rw [wipe_sub h11, wipeC_sub h11, ws, hw1] at e9 n9
      exact ⟨_, hrest, F8, fi8, (((s2.trans s3).trans s4).trans s6).trans s8, ((p2.trans p4).trans p6).trans p8, e9, n9⟩
  · have ei : i = ds.length := by omega
    subst ei
    rw [List.drop_length] at hct
    cases hct
    have e3 := e1.unwipe e2 s2 p2 hv
    exact .inl ⟨fd.stop H2 (s2.trans e2.sub), q _ F2 fi2 H2 (s1.trans s2) (p1.trans p2) e3 (new_unwipe hv h2)⟩
theorem ev_dc2 {us : List Nat} {rk : List (Key × Dt)} (hc : X.calm = true) (hN : X.N.Nodup) (hi : EvI T X G mu t0 i0 ds mu1) (ok : BlkOk X.N X.env.scope scope own) (hv1 : ∀ j ∈ us, j ∈ own.map (·.2)) (hv : ∀ j ∈ own.map (·.2), ∀ m, G[j]? ≠ some (.own m))
    (ht : To2 T X scope (own.map (·.2)) us (wipeC G (own.map (·.2))) mu1 t0 t1 i1 kx vx ds [] rk) (hs : ∀ x, foldedSetIterable i0 X.env x = pure x := by intro _; rfl) (hs1 : ∀ env x, foldedSetIterable i1 env x = pure x := by intro _ _; rfl) :
    EvD T X G mu (Dc.Ex kx vx t0 i0 t1 i1 scope pos) (.new (dicK rk)) mu1 :=
  pe_imp (Dc.pe_d2 hc hN hi ok hv1 gU_ok iU_ok gU_ok eU_ok eU_ok hs hs1) fun sg H Q h => d2_read hv hv1 ht h
end
/-- d[k] of a list of pairs -/
theorem KvD.at {K : PySem.W.Frag} {F : Hp} {fi : List Addr} {xs : List (Key × V)} {ys : List (Key × Dt)} (h : KvD K F fi xs ys) {k : Key} {d : Dt} (hd : getA ys k = some d) : ∃ v, valV xs k = some v ∧ Rp K F fi v d := by
  induction h with
  | nil => cases hd
  | @cons k' v' d' xs ys q _ ih =>
    unfold getA at hd
    unfold valV
    by_cases z : k' = k
    · simp only [z, List.find?_cons, decide_true] at hd ⊢
      cases hd
      exact ⟨v', rfl, q⟩
    · simp only [List.find?_cons, decide_eq_false z] at hd ⊢
      exact ih hd
section
variable {T : Tbs} {X : Cx} {G : List Cell} {mu mu1 mu2 : List Dt} {o kx : Expr} {r : Res} {d : Dt} {pos : Pos}
theorem ev_dgetK {kvs : List (Key × Dt)} {k : Key} (hu : X.A.units + 1 < cLine) (ho : EvD T X G mu o (.dat (dicK kvs)) mu1) (hk : EvD T X G mu1 kx (.dat (keyD k)) mu2) (hd : getA kvs k = some d) (hs : NoSl kx := by exact fun _ _ => rfl) :
    EvD T X G mu (.Subscript o kx pos) (.dat d) mu2 := by
  refine pe_imp (pe_dget hu ho hk hs) fun sg H Q ⟨B, F, fi, e, q⟩ => ⟨B, F, fi, e, fun x F1 fi1 H1 s1 p1 e1 h1 => ⟨B, F1, fi1, e1, fun y F3 fi3 H3 s3 p3 e3 h3 => ?_⟩⟩
  have h1' := Rp.mono s3 p3 h1
  obtain ⟨a, u, ka, vs, rfl, g1, g2, _, g3⟩ := (show Vw X.K F3 fi3 H3 x (dicK kvs) from .inl h1').dic e3.sub
  cases u with
  | dK xs =>
    obtain ⟨g4, _, rfl⟩ := g2
    have kk := KvD.of (fun _ _ => keyD_inj) g4 g3
    obtain ⟨v, hv, rv⟩ := kk.at hd
    have hyk : y = kV k := by
      cases k <;> (cases h3; rfl)
    exact ⟨a, v, rfl, .inl ⟨xs, k, .inl g1, hyk, hv.symm⟩, q v F3 fi3 H3 (s1.trans s3) (p1.trans p3) e3 rv⟩
  | _ => exact g2.elim
end
end Dl

set_option Elab.async false
set_option linter.all false
set_option maxRecDepth 100000
set_option maxHeartbeats 4000000
/-! DlSort: sorted of lists and tuples of data. -/
namespace Dl
open PySem PySem.Spec PyProof.Rows PySem.W L2
/-- ordered as data are -/
def sortD (ds : List Dt) : List Dt := ds.mergeSort (dataLe false Dt.py)
/-- what can be ordered: all alike, tuples with an item each -/
def CanSort (ds : List Dt) : Prop := AllAlike (ds.map Dt.py) ∧ Sortable (ds.map Dt.py) ∧ (∀ d ∈ ds, d.dep 60 = true) ∧ ds.length < 1000000
/-- item by item -/
inductive Both (S : V → Dt → Prop) : List V → List Dt → Prop
  | nil : Both S [] []
  | cons {v : V} {d : Dt} {vs : List V} {ds : List Dt} : S v d → Both S vs ds → Both S (v :: vs) (d :: ds)
theorem Both.rpl {K : PySem.W.Frag} {F : Hp} {fi : List Addr} {vs : List V} {ds : List Dt} (h : Both (Rp K F fi) vs ds) : RpL K F fi vs ds := by
  induction h with
  | nil => exact .nil
  | cons h _ ih => exact .cons h ih
theorem both_of {K : PySem.W.Frag} {F : Hp} {fi : List Addr} : ∀ {vs : List V} {ds : List Dt}, RpL K F fi vs ds → Both (Rp K F fi) vs ds
  | _, _, .nil => .nil
  | _, _, .cons h t => .cons h (both_of t)
theorem Both.length {S : V → Dt → Prop} {vs : List V} {ds : List Dt} (h : Both S vs ds) : vs.length = ds.length := by
  induction h with
  | nil => rfl
  | cons _ _ ih => rw [List.length_cons, List.length_cons, ih]
/-- the values stand for data -/
def Stand (S : V → Dt → Prop) (u : Value) (d : Dt) : Prop := ∃ v, RelV v u ∧ S v d
theorem stand_in {S : V → Dt → Prop} : ∀ {vs : List V} {us : List Value} {ds : List Dt}, Both S vs ds → Vals vs us → PySem.W.EachIs (Stand S) us ds
  | _, _, _, .nil, .nil => .nil
  | _, _, _, .cons h t, .cons r rs => .cons ⟨_, r, h⟩ (stand_in t rs)
theorem stand_out {S : V → Dt → Prop} : ∀ {us : List Value} {ds : List Dt}, PySem.W.EachIs (Stand S) us ds → ∃ vs, Vals vs us ∧ Both S vs ds
  | _, _, .nil => ⟨[], .nil, .nil⟩
  | _, _, .cons ⟨v, r, h⟩ t => by
    obtain ⟨vs, rs, hs⟩ := stand_out t
    exact ⟨v :: vs, .cons r rs, .cons h hs⟩
def rSortL (K : PySem.W.Frag) : List V → Hp → VK → Prop := fun vs H Q => ∃ (a : Addr) (xs : List V) (ds : List Dt) (S : V → Dt → Prop), vs = [V.ref a] ∧ SqL K H a xs ∧ CanSort ds ∧ DpAll K H xs (ds.map Dt.py) ∧ Both S xs ds ∧
  ∀ (ys : List V) (p : Addr), Both S ys (sortD ds) → H p = none → Q (.ref p) (upd H p (.lst ys))
theorem depth_of {ds : List Dt} (h : ∀ d ∈ ds, d.dep 60 = true) {u : Nat} (hu : u + 70 < cLine) : ∀ b, b ∈ ds → u + 2 + b.py.depth < cLine := fun b hb => by
  have := (Dt.dep_py 60 b (h b hb)).2
  omega
theorem cr_sortL {X : Cx} (hu : X.A.units + 70 < cLine) : CallR X (.builtin "sorted") (rSortL X.K) := by
  intro pins s sl H vs us Q I r h
  obtain ⟨a, xs, ds, S, rfl, hs, ⟨c1, c2, c3, c4⟩, hd, hb, q⟩ := h
  obtain ⟨its, rv, hl, hz⟩ := I.list hs
  rw [Vals.ref1 r]
  obtain ⟨as, ra⟩ := Dp.readsAll I _ _ its hd rv
  have hsl := sizeLine_eq
  refine sorted_data (R := Stand S) (enc := Dt.py) (bs := ds) hl.isList (stand_in hb rv) (readsAll_each Dt.py ra) c1 c2 (by omega) (depth_of c3 hu) fun out h1 h2 => ?_
  obtain ⟨ys, k1, k2⟩ := stand_out h2
  obtain ⟨ep, he'⟩ := PyProof.Rows.sortedAll_at s.heap its out.toArray
  have hlen : ys.length ≤ sizeLine := by
    rw [k1.length, h1]
    omega
  exact ⟨.ref _, upd H (s.heap.objs.size + 1) (.lst ys), I.laid (t' := s.toks) (fun _ _ => PyProof.Rows.sortedAll_old) (Nat.le_succ _) ⟨hlen, out, ep, k1, he'⟩, rfl, q _ _ k2 (I.hok.fresh (Nat.le_succ _))⟩
mutual
theorem reads_at {h : Heap} : ∀ {v : Value} {d : PyData} {as : List Addr}, Reads h v d as → ∀ a ∈ as, a < h.objs.size
  | _, _, _, .none, _, m => by cases m
  | _, _, _, .bool _, _, m => by cases m
  | _, _, _, .int _ _, _, m => by cases m
  | _, _, _, .str _ _, _, m => by cases m
  | _, _, _, .list h1 _ _ h4, a, m => by
    rcases List.mem_cons.mp m with z | z
    · exact z ▸ Heap.lt_size h1
    · exact reads_all_at h4 a z
  | _, _, _, .tuple _ _ _ h4, a, m => reads_all_at h4 a m
  | _, _, _, .dict h1 _ _ h4 h5, a, m => by
    rcases List.mem_append.mp m with z | z
    · rcases List.mem_cons.mp z with z | z
      · exact z ▸ Heap.lt_size h1
      · exact reads_all_at h4 a z
    · exact reads_all_at h5 a z
theorem reads_all_at {h : Heap} : ∀ {vs : List Value} {ds : List PyData} {as : List Addr}, ReadsAll h vs ds as → ∀ a ∈ as, a < h.objs.size
  | _, _, _, .nil, _, m => by cases m
  | _, _, _, .cons h1 h2, a, m => by
    rcases List.mem_append.mp m with z | z
    · exact reads_at h1 a z
    · exact reads_all_at h2 a z
end
section
variable {P : Program} {w : World} {A : Around} {E : Value → Shared → Prop} {s : Shared}
/-- a tuple's items, ordered -/
theorem sorted_tupD {l : Addr} {vs : List Value} {ds : List Dt} {R : Value → Dt → Prop} {Q : Value → Shared → Prop} (hl : s.heap.IsTuple l vs.toArray) (hz : vs.length ≤ sizeLine) (hR : PySem.W.EachIs R vs ds) (hD : PySem.W.EachIs (fun v b => ∃ as, Reads s.heap v (Dt.py b) as ∧ s.heap.objs.size + 1 ∉ as) vs ds)
    (c1 : AllAlike (ds.map Dt.py)) (c2 : Sortable (ds.map Dt.py)) (hn : ds.length ≤ sizeLine) (hu : ∀ b, b ∈ ds → A.in1.units + 1 + (Dt.py b).depth < cLine)
    (h : ∀ out : List Value, out.length = ds.length → PySem.W.EachIs R out (sortD ds) → Q (.ref (s.heap.objs.size + 1)) { s with heap := sortedAll s.heap vs out.toArray }) :
    wpAny (model P w) A (call (.builtin "sorted") [.ref l]) Q E s := by
  refine Calls.call_function_entry kind_sorted plain_sorted entry_sorted (args_sorted1 _) ?_
  unfold Builtin.«sorted»
  refine wpAny_bind (m := checkCount "sorted" 1 1 _) (wpAny_pure ?_)
  refine wpAny_bind (collect_tupT hl hz ?_)
  refine wpAny_bind (wpAny_newList ?_ hz)
  obtain ⟨hp, ehp⟩ : ∃ hp, hp = (s.heap.push (seqObj "list" #[] 0)).update s.heap.objs.size (Obj.mapSeq (· ++ vs.toArray)) := ⟨_, rfl⟩
  have hsz : hp.objs.size = s.heap.objs.size + 1 := by
    rw [ehp, Heap.size_update, size_push']
  have old : ∀ b o, s.heap.get? b = some o → (hp.push (seqObj "list" vs.toArray 0)).get? b = some o := fun b o e => by
    refine Heap.get?_push_of_some _ ?_
    rw [ehp, Heap.get?_update_ne _ _ _ _ (Nat.ne_of_lt (Heap.lt_size e))]
    exact Heap.get?_push_of_some _ e
  have hoL : (hp.push (seqObj "list" vs.toArray 0)).get? (s.heap.objs.size + 1) = some (seqObj "list" vs.toArray 0) := by
    rw [← hsz]; exact Heap.get?_push_size _ rfl
  show wpAny _ _ _ _ _ { s with heap := ((s.heap.push (seqObj "list" #[] 0)).update s.heap.objs.size (Obj.mapSeq (· ++ vs.toArray))).push (seqObj "list" vs.toArray 0) }
  rw [← ehp, hsz]
  have hD' : PySem.W.EachIs (fun v b => ∃ as, Reads (hp.push (seqObj "list" vs.toArray 0)) v (Dt.py b) as ∧ s.heap.objs.size + 1 ∉ as) vs ds := hD.mono fun v b ⟨as, r, hn⟩ => ⟨as, PyProof.Rows.Reads.keeps old r, hn⟩
  refine wpAny_bind (wpAny_holding (list_sort_data (bs := ds) (enc := Dt.py) (R := R) hoL hR hD' c1 c2 hn hu fun out h1 h2 => ?_))
  have k := h out h1 h2
  unfold sortedAll at k
  rw [← ehp] at k
  exact wpAny_pure ⟨_, rfl, k⟩
end
def rSortT (K : PySem.W.Frag) : List V → Hp → VK → Prop := fun vs H Q => ∃ (a : Addr) (xs : List V) (ds : List Dt) (S : V → Dt → Prop), vs = [V.ref a] ∧ SqT K H a xs ∧ CanSort ds ∧ DpAll K H xs (ds.map Dt.py) ∧ Both S xs ds ∧
  ∀ (ys : List V) (p : Addr), Both S ys (sortD ds) → H p = none → Q (.ref p) (upd H p (.lst ys))
theorem cr_sortT {X : Cx} (hu : X.A.units + 70 < cLine) : CallR X (.builtin "sorted") (rSortT X.K) := by
  intro pins s sl H vs us Q I r h
  obtain ⟨a, xs, ds, S, rfl, hs, ⟨c1, c2, c3, c4⟩, hd, hb, q⟩ := h
  obtain ⟨its, rv, hl, hz⟩ := I.tuple hs
  rw [Vals.ref1 r]
  obtain ⟨as, ra⟩ := Dp.readsAll I _ _ its hd rv
  have hsl := sizeLine_eq
  have hx : xs.length = its.length := rv.length
  have hx2 := hb.length
  have hD : PySem.W.EachIs (fun v b => ∃ as, Reads s.heap v (Dt.py b) as ∧ s.heap.objs.size + 1 ∉ as) its ds := (readsAll_each Dt.py ra).mono fun v b ⟨as, r⟩ => ⟨as, r, fun z => by
    have := reads_at r _ z
    exact absurd this (Nat.not_lt_of_le (Nat.le_succ _))⟩
  refine sorted_tupD (R := Stand S) (ds := ds) (show s.heap.IsTuple a its.toArray from hl) (by omega) (stand_in hb rv) hD c1 c2 (by omega) (fun b hb => ?_) fun out h1 h2 => ?_
  · have := (Dt.dep_py 60 b (c3 b hb)).2
    show X.A.units + 1 + 1 + _ < cLine
    omega
  obtain ⟨ys, k1, k2⟩ := stand_out h2
  obtain ⟨ep, he'⟩ := PyProof.Rows.sortedAll_at s.heap its out.toArray
  have hlen : ys.length ≤ sizeLine := by
    rw [k1.length, h1]
    omega
  exact ⟨.ref _, upd H (s.heap.objs.size + 1) (.lst ys), I.laid (t' := s.toks) (fun _ _ => PyProof.Rows.sortedAll_old) (Nat.le_succ _) ⟨hlen, out, ep, k1, he'⟩, rfl, q _ _ k2 (I.hok.fresh (Nat.le_succ _))⟩
section
variable {T : Tbs} {X : Cx} {G : List Cell} {mu mu1 mu2 : List Dt} {r r1 r2 : Res} {e e2 : Expr} {pos p p2 q1 : Pos}
theorem ev_sortD {ds : List Dt} (hu : X.A.units + 70 < cLine) (h : EvD T X G mu e r mu1) (hm : X.mg "sorted" = none) (hs : CanSort ds) (l : look G r = some (.lst ds) := by rfl) (hg : Gl X "sorted" := by rfl) (he : starEach [e] X.env = (false, eval e X.env) :: starEach [] X.env := by rfl) :
    EvD T X G mu (.Call (.Name "sorted" p) [e] [] pos) (.new (.lst (sortD ds))) mu1 := by
  refine ev_B (cr_sortL hu) (cd_new l fun F fi H v Q s hv q => ?_) (ea_cons h ea_nil he) hm PyProof.Rows.boot_sorted hg (by decide) (by decide) he
  obtain ⟨a, vs, rfl, f2, m⟩ := hv.lst s
  have hd : DpAll X.K H vs (ds.map Dt.py) := by
    rw [← Dt.pyAll_map]
    exact RpL.dp s (n := 60) m hs.2.2.1
  exact ⟨a, vs, ds, Rp X.K F fi, rfl, SqL.of f2, hs, hd, both_of m, fun ys p h1 hp => q p _ hp h1.rpl⟩
theorem ev_sortDT {ds : List Dt} (hu : X.A.units + 70 < cLine) (h : EvD T X G mu e r mu1) (hm : X.mg "sorted" = none) (hs : CanSort ds) (l : look G r = some (.tup ds) := by rfl) (hg : Gl X "sorted" := by rfl) (he : starEach [e] X.env = (false, eval e X.env) :: starEach [] X.env := by rfl) :
    EvD T X G mu (.Call (.Name "sorted" p) [e] [] pos) (.new (.lst (sortD ds))) mu1 := by
  refine ev_B (cr_sortT hu) (cd_new l fun F fi H v Q s hv q => ?_) (ea_cons h ea_nil he) hm PyProof.Rows.boot_sorted hg (by decide) (by decide) he
  obtain ⟨a, vs, rfl, _, f2, m⟩ := hv.tup s
  have hd : DpAll X.K H vs (ds.map Dt.py) := by
    rw [← Dt.pyAll_map]
    exact RpL.dp s (n := 60) m hs.2.2.1
  exact ⟨a, vs, ds, Rp X.K F fi, rfl, SqT.of f2, hs, hd, both_of m, fun ys p h1 hp => q p _ hp h1.rpl⟩
end
/-! ### the order -/
theorem sortD_perm (ds : List Dt) : (sortD ds).Perm ds := List.mergeSort_perm ds _
end Dl

set_option Elab.async false
set_option linter.all false
set_option maxRecDepth 100000
set_option maxHeartbeats 4000000
/-! DlIn: x in t, t a tuple. -/
namespace Dl
open PySem PySem.Spec PyProof.Rows L2
section
variable {T : Tbs} {X : Cx} {G : List Cell} {mu mu1 mu2 : List Dt} {r1 r2 : Res} {a b : Expr} {pos : Pos}
theorem op_inT (hu : X.A.units + 65 < cLine) : OpR X (compareOp .In) (fun x y H Q => ∃ d ds, Dp X.K H x d ∧ Dp X.K H y (.tuple ds) ∧ SeqAt.shaped d = true ∧ SeqAt.shaped (.tuple ds) = true ∧ Q (.bl (ds.any fun z => PyData.eqv z d)) H) := by
  intro pins s σ H x y v u Q I rx ry h
  obtain ⟨d, ds, hd, he, sd, se, q⟩ := h
  obtain ⟨as, r1⟩ := Dp.reads I d x v hd rx
  obtain ⟨bs, r2⟩ := Dp.reads I (.tuple ds) y u he ry
  exact SeqAt.in_tuple_reads r2 r1 (SeqAt.canLay_of_shaped se) (SeqAt.canLay_of_shaped sd) (room_in_shaped sd hu) ⟨.bl _, H, I, rfl, q⟩
theorem et_inT (hu : X.A.units + 65 < cLine) {ds : List Dt} {d1 : Dt} {k : Bool} (ha : EvD T X G mu a r1 mu1) (hb : EvD T X G mu1 b r2 mu2) (hk : (ds.any fun z => PyData.eqv z.py d1.py) = k) (s1 : d1.dep 60 = true) (s2 : (Dt.tup ds).dep 60 = true) (l1 : look G r1 = some d1 := by rfl) (l2 : look G r2 = some (.tup ds) := by rfl)
    (hm : behindInMarks .In b = false := by rfl) : EvT T X G mu (.Compare a [.In] [b] pos) k mu2 :=
  et_cmp (op_inT hu) (op2_val l1 l2 fun F fi H v u Q s h1 h2 q => ⟨d1.py, ds.map Dt.py, h1.dp s s1, by rw [← Dt.pyAll_map]; exact h2.dp s s2, Dt.shaped s1, by rw [← Dt.pyAll_map]; exact Dt.shaped s2, by
    rw [List.any_map]
    have e : (ds.any ((fun z => PyData.eqv z d1.py) ∘ Dt.py)) = k := hk
    rw [e]
    exact q _ (.bl _)⟩) hm ha hb
end
end Dl

set_option Elab.async false
set_option linter.all false
set_option maxRecDepth 100000
set_option maxHeartbeats 4000000
/-! DlLam: a lambda that captures nothing, as data; its making, its call by a slot. -/
namespace Dl
open PySem PySem.Spec PyProof.Rows L2
/-- its function object at a -/
def LamO (a : Addr) (q : Str) (params : Arguments) (body : Expr) (scope : Scope) (c : Addr) : HO := .ext fun h => ∃ pm ct, h.get? a = some (PySem.W.kla_obj "<lambda>" q params body scope [] pm c ct)
/-- the lambda as data -/
def lamA (q : Str) (params : Arguments) (body : Expr) (scope : Scope) : AbsO where
  φ := fun a F => ∃ c, F a = some (LamO a q params body scope c) ∧ F c = some (LamX.CodeO c q)
  mono := fun s ⟨c, h1, h2⟩ => ⟨c, s _ _ h1, s _ _ h2⟩
theorem lamO_tbl {a : Addr} {q : Str} {params : Arguments} {body : Expr} {scope : Scope} {c : Addr} (ps : Array Value) : LamO a q params body scope c ≠ .tbl ps := fun z => by
  unfold LamO at z
  cases z
section
variable {T : Tbs} {X : Cx} {G : List Cell} {mu mu1 mu2 : List Dt} {r : Res} {rs : List Res} {ds : List Dt} {e : Expr} {es : List Expr} {pos p : Pos} {x q : Str} {params : Arguments} {body : Expr} {scope : Scope} {N ps : List Str} {k : Nat}
/-- it is entered -/
theorem run_lam {A : Around} {outer : List Env} {s : Shared} {H : Hp} {f c : Addr} {us : List Value} {vs : List V} {Q : VK} {t : TE} (hr : Room (k + 1) A) (e0 : Env0 X.prog X.w X.K X.mg X.base A outer s H) (hok : HOk X.prog X.w H s.heap) (Sc : FnScope N ps scope)
    (h1 : H f = some (LamO f q params body scope c)) (h2 : H c = some (LamX.CodeO c q)) (hb : ∀ pm cv ct us, us.length = ps.length → bindArgs (PySem.W.kla_fn "<lambda>" q params body scope [] pm cv ct) ⟨us, []⟩ = pure (ps.zip us))
    (rv : Vals vs us) (hl : vs.length = ps.length) (hbody : Room k (A.deeper (envOfC q scope s.heap.objs.size f (.ref c))) → PE (cxD X.prog X.w X.K X.mg X.base N q scope f (.ref c) A outer s H E0) body t) (ht : t (L2.start N vs) H Q) :
    codeAny (model X.prog X.w) A (.call (.ref f) ⟨us, []⟩) (CR (L2.CX X.prog X.w) outer X.prog X.w H s Q E0) s := by
  obtain ⟨⟨pm, ct, hf⟩, _, _⟩ := hok f _ h1
  obtain ⟨⟨oc, ws, tk, e1, e2, e3⟩, _, _⟩ := hok c _ h2
  have nl : s.heap.NoLimit := e0.mod.nolimit.keeps fun b o z => (e0.bs b o z).1
  refine PySem.W.kla_callFunE hr.depth hf rfl Sc.co Sc.gen rfl ⟨c, oc, ws, tk, rfl, e1, e2, e3⟩ ?_
  rw [hb pm (.ref c) ct us (by rw [← rv.length]; exact hl)]
  refine wpAny_pure (wpAny_newFunctionEnv_cells Sc.kind (fun y hy => ?_) fun env he s1 z => ?_)
  · obtain ⟨n, v⟩ := y
    rcases Sc.par n (List.of_mem_zip hy).1 with w1 | w1
    · exact .inl w1
    · exact .inr ⟨w1, PySem.W.cellsFrom_some _ _ _ (.inl w1)⟩
  · subst he
    refine ⟨nl.keeps z.toInCall.keep, ?_⟩
    have J : Inv (cxD X.prog X.w X.K X.mg X.base N q scope f (.ref c) A outer s H E0) [] (L2.start N vs) H s1 := inv_start Sc hr.hd e0 hl rv z
    refine PySem.W.kla_codeExpr (wpAny_mono ((hbody (hr.deeper _)).run [] s1 _ H Q J ht) (fun v s' hq => ?_) fun _ _ hs => hs)
    obtain ⟨v', H', J', rv', hq'⟩ := hq
    exact ⟨v', H', J'.os, J'.bare, J'.base, J'.hok, rv', hq'⟩
/-- x(e, ..), x holds a lambda -/
theorem ev_callLam (i : Nat) (hG : G[i]? = some (.val (.abs (lamA q params body scope)))) (hr : Room (k + 1) X.A) (ha : EvA T X G mu (e :: es) rs mu1) (hd : Dats rs ds) (Sc : FnScope N ps scope) (hl : ds.length = ps.length)
    (hb : ∀ pm cv ct us, us.length = ps.length → bindArgs (PySem.W.kla_fn "<lambda>" q params body scope [] pm cv ct) ⟨us, []⟩ = pure (ps.zip us))
    (hbody : ∀ (A : Around) (outer : List Env) (s : Shared) (H : Hp) (f c : Addr), Room k (A.deeper (envOfC q scope s.heap.objs.size f (.ref c))) → EvD T (cxD X.prog X.w X.K X.mg X.base N q scope f (.ref c) A outer s H E0) (start0 N.length ds) mu1 body (.dat d) mu2)
    (hN : X.N[i]? = some x := by rfl) (hv : Vis X.env.scope x := by first | exact Or.inl rfl | exact Or.inr (Or.inl rfl) | exact Or.inr (Or.inr rfl)) (hdb : (x == ("__debug__" : Str)) = false := by decide) (hcd : (x == ("__classdict__" : Str)) = false := by decide)
    (he : starEach (e :: es) X.env = (false, eval e X.env) :: starEach es X.env := by rfl) (hpl : (backTo pos (starEach es X.env)).any (·.1) = false := by rfl) : EvD T X G mu (.Call (.Name x p) (e :: es) [] pos) (.dat d) mu2 := by
  refine ⟨fun pins s sg H Q I ⟨B, F, fi, e0, hq⟩ => ?_⟩
  obtain ⟨v, h1, h2⟩ := e0.slot i _ hG
  cases h2 with
  | abs hφ =>
  rename_i f
  obtain ⟨c, k1, k2⟩ := hφ
  refine wpAny_Call_Name_kw (thn ((pe_var (pos := p) hN hv hdb hcd).run pins s sg H (fun v H1 => v = .ref f ∧ H1 = H) I ⟨.ref f, h1, rfl, rfl⟩) fun u s1 ⟨v, H1, I1, r1, q1⟩ => ?_)
  obtain ⟨ev, eH⟩ := q1
  subst ev
  rw [eH] at I1
  obtain rfl : u = Value.ref f := r1
  have at_ : ∀ {s' : Shared} {H' : Hp}, HOk X.prog X.w H' s'.heap → Sub F H' → PySem.W.FnAt f s'.heap := fun {s' H'} hok hs => by
    obtain ⟨⟨pm, ct, hf⟩, _, _⟩ := hok f _ (hs _ _ k1)
    exact ⟨_, _, _, _, hf⟩
  refine PySem.W.callWith_F (at_ I1.hok e0.sub) (thn (ha.run pos pins s1 sg H (fun vs H2 => ∃ F1 fi1, Sub F F1 ∧ fi <+: fi1 ∧ DE X.K T B F1 fi1 sg H2 G mu1 ∧ RpRs X.K B F1 fi1 sg H2 G vs rs) I1 ⟨B, F, fi, e0, fun vs F1 fi1 H2 a1 a2 a3 a4 => ⟨F1, fi1, a1, a2, a3, a4⟩⟩) fun us s2 ⟨vs, H2, I2, r2, F1, fi1, a1, a2, a3, a4⟩ => ?_) he hpl
  have sF : Sub F H2 := a1.trans a3.sub
  refine ⟨at_ I2.hok sF, ?_⟩
  show wpAny (model X.prog X.w) X.A (call (.ref f) us) (EP X pins sg Q) X.xe s2
  have md := a4.dats hd
  have rc := run_lam (A := X.A) (outer := X.stack) (Q := Q) hr I2.env0 I2.hok Sc (sF _ _ k1) (sF _ _ k2) hb r2 (by rw [md.length]; exact hl) (fun hr' => hbody X.A X.stack s2 H2 f c hr')
    ⟨⟨F1, H2, fi1⟩, F1, fi1, a3.into.start md, fun v F' fi' H' b1 b2 b3 b4 => hq v F' fi' H' (a1.trans b1) (a2.trans b2) (a3.back b1 b2 b3.strip) b4⟩
  refine wpAny_call (codeAny_mono rc fun r s' hs => ?_)
  cases r with
  | error er => exact passL pins sg H2 s2 er s' I2 hs
  | ok fl =>
    cases fl with
    | ret u => exact I2.after hs
    | next => exact hs.elim
    | brk => exact hs.elim
    | cont => exact hs.elim
end
/-! ### its making -/
section
variable {K : PySem.W.Frag} {T : Tbs} {B : Bs} {F : Hp} {fi : List Addr} {sg : L2.St} {H : Hp} {G : List Cell} {mu : List Dt}
/-- a table has grown -/
theorem DE.tabGrow (e : DE K T B F fi sg H G mu) {P : Addr} {ps : Array Value} (hP : P ∈ T) (h1 : TriplesOk ps.toList) (h2 : LamOk T F P ps) : DE K T B F fi sg (upd H P (.tbl ps)) G mu := by
  obtain ⟨p1, ps0, p3, p4⟩ := e.tab P hP
  have ne : ∀ {a : Addr} {m : Dt}, Ob K F fi H a m → a ≠ P := fun {a m} ho z => by
    obtain ⟨o, q, hn⟩ := ho.some
    rw [z, p3] at q
    exact hn _ (Option.some.inj q).symm
  refine ⟨fun a o q => ?_, fun p hp => ?_, e.len, e.lenm, e.slot, fun i m q => ?_, fun j a m q1 q2 => ?_, e.oo, e.om, e.mm, fun a o q1 q2 q3 => ?_, e.fold, e.fpre, e.fnew⟩
  · have z : a ≠ P := fun z => by rw [z, p1] at q; cases q
    rw [upd_ne z]
    exact e.sub a o q
  · by_cases z : p = P
    · rw [z]
      exact ⟨p1, ps, upd_same, h1, h2⟩
    · obtain ⟨g1, qs, g3, g4⟩ := e.tab p hp
      exact ⟨g1, qs, by rw [upd_ne z]; exact g3, g4⟩
  · obtain ⟨p, a, b, c, d⟩ := e.own i m q
    exact ⟨p, a, b, c.mono (Sub.refl F) (List.prefix_refl _) (upd_ne (ne c)), d⟩
  · obtain ⟨b, c⟩ := e.obj j a m q1 q2
    exact ⟨b, c.mono (Sub.refl F) (List.prefix_refl _) (upd_ne (ne c))⟩
  · have z : a ≠ P := fun z => q3 (by rw [z]; exact hP)
    rw [upd_ne z]
    exact e.frame a o q1 q2 q3
/-- a new thing that stays -/
theorem DE.newE (e : DE K T B F fi sg H G mu) {p : Addr} {o : HO} (hp : H p = none) (n : ∀ q, o ≠ .tbl q) : Sub F (upd F p o) ∧ DE K T B (upd F p o) fi sg (upd H p o) G mu := by
  obtain ⟨h1, h2, h3, h4, h5⟩ := e.put hp o
  exact ⟨Sub.new h2, h1.grow upd_same h2 h5 n h3 h4⟩
theorem upd_comm {H : Hp} {a b : Addr} {o u : HO} (h : a ≠ b) : upd (upd H a o) b u = upd (upd H b u) a o := by
  funext z
  by_cases h1 : z = a
  · subst h1
    rw [upd_ne h, upd_same, upd_same]
  · by_cases h2 : z = b
    · subst h2
      rw [upd_same, upd_ne h1, upd_same]
    · rw [upd_ne h2, upd_ne h1, upd_ne h1, upd_ne h2]
end
section
variable {T : Tbs} {X : Cx} {G : List Cell} {mu : List Dt} {pos : Pos} {q : Str} {params : Arguments} {body : Expr} {scope : Scope} {c P : Addr}
theorem clo_none {cells : List (Str × Addr)} : ∀ {ns : List (Str × NameKind)} {acc : List (Str × Addr)}, (ns.all fun y => !decide (y.2 = .free)) = true → cloFrom cells ns acc = acc
  | [], _, _ => rfl
  | (n, k) :: r, acc, h => by
    have h : ((!decide (k = .free)) && r.all fun y => !decide (y.2 = .free)) = true := h
    rw [Bool.and_eq_true, Bool.not_eq_true', decide_eq_false_iff_not] at h
    have hk : (k == NameKind.free) = false := by
      cases k <;> first | rfl | exact absurd rfl h.1
    show (if k == NameKind.free then _ else cloFrom cells r acc) = acc
    rw [hk]
    exact clo_none h.2
theorem ev_lam (TB : GxR.TabB X.base X.mg c P) (hP : P ∈ T ∧ T.q P = some q) (hcode : X.env.code = .ref c) (hq : X.env.qual ++ "<lambda>" = q) (hdef : defaultsOf params X.env = ([], []) := by rfl) (hfree : (scope.names.all fun y => !decide (y.2 = .free)) = true := by rfl) :
    EvD T X G mu (.Lambda params body scope pos) (.dat (.abs (lamA q params body scope))) mu := by
  refine ⟨fun pins s sg H Q I ⟨B, F, fi, e, hQ⟩ => ?_⟩
  obtain ⟨pF, ps, hT, ht, hL⟩ := e.tab P hP.1
  have ha := hL q hP.2
  have clo : cloFrom X.env.cells scope.names [] = [] := clo_none hfree
  have hfr : ∀ y ∈ scope.names, y.2 = .free → ∃ c, X.env.cells.lookup y.1 = some c := fun y hy z => by
    have := List.all_eq_true.mp hfree y hy
    rw [z] at this
    cases this
  have cl := closure_ok (env := X.env) hfr
  rw [clo] at cl
  have hP2 : s.heap.get? P = some { cls := .none, data := .fields ps } := I.hok P _ hT
  have bP : s.heap.BuiltinsAt X.mg P := TB.bm.keeps I.bk
  -- the function object, laid
  have lay : ∀ {H1 : Hp} {F1 : Hp} {h1 : Heap} {t1 : Nat} {c1 : Addr} {pm ct : Value}, Inv X pins sg H1 { s with heap := h1, toks := t1 } → Sub F F1 → DE X.K T B F1 fi sg H1 G mu → F1 c1 = some (LamX.CodeO c1 q) →
      EP X pins sg Q (.ref h1.objs.size) { s with heap := h1.push (PySem.W.kla_obj "<lambda>" q params body scope [] pm c1 ct), toks := t1 } := fun {H1 F1 h1 t1 c1 pm ct} J s1 e1 hc1 => by
    have nf : H1 h1.objs.size = none := J.fresh
    obtain ⟨s2, e2⟩ := e1.newE (o := LamO h1.objs.size q params body scope c1) nf lamO_tbl
    have gf : (h1.push (PySem.W.kla_obj "<lambda>" q params body scope [] pm c1 ct)).get? h1.objs.size = some (PySem.W.kla_obj "<lambda>" q params body scope [] pm c1 ct) := Heap.get?_push_size _ rfl
    have J2 := J.laid (t' := t1) (h' := h1.push (PySem.W.kla_obj "<lambda>" q params body scope [] pm c1 ct)) (o := LamO h1.objs.size q params body scope c1) (fun b u z => Heap.get?_push_of_some _ z) (Nat.le_refl _) ⟨⟨pm, ct, gf⟩, ⟨_, gf⟩, fun g1 g2 ⟨pm', ct', z⟩ st => ⟨pm', ct', st _ z⟩⟩
    exact ⟨.ref h1.objs.size, _, J2, rfl, hQ _ _ fi _ (s1.trans s2) (List.prefix_refl _) e2 (.abs ⟨c1, upd_same, s2 _ _ hc1⟩)⟩
  refine PySem.W.kla_eval hdef ?_
  rw [hq]
  cases hc : codeAmong pos ps.toList with
  | none =>
    refine PySem.W.kla_makeFunction (mg := X.mg) (c := c) (P := P) (ps := ps) cl I.ok.glob (I.mod.glob.keeps I.bk) hcode (TB.code.keeps I.bk) hP2 ht hc TB.gP bP fun c1 ct h1 t1 hx hge hlt hrec htb => ?_
    obtain ⟨c2, oc, ws, t2, ec, g1, g2, g3⟩ := hrec
    cases ec
    have nC : H c1 = none := I.hok.fresh hge
    have nPc : P ≠ c1 := ne_of_none hT nC
    have J := LamX.inv_table (t' := t1) (q := q) (more := #[rawInt pos.line, rawInt pos.col, .ref c1]) (h' := h1) I hT (fun b o hb z => hx b o hb z) htb hge ⟨oc, ws, t2, g1, g2, g3⟩
    obtain ⟨s1, e1⟩ := e.newE (o := LamX.CodeO c1 q) nC LamX.codeO_ne
    have eL : (ps ++ #[rawInt pos.line, rawInt pos.col, .ref c1]).toList = ps.toList ++ [rawInt pos.line, rawInt pos.col, .ref c1] := by simp
    have e2 := e1.tabGrow (ps := ps ++ #[rawInt pos.line, rawInt pos.col, .ref c1]) hP.1 (by rw [eL]; exact PySem.TriplesOk_snoc _ _ _ _ ht) fun q' hq' pos' cv hcv => by
      have : q = q' := Option.some.inj (hP.2.symm.trans hq')
      subst this
      rw [eL] at hcv
      rcases LamX.among_app _ ht hcv with z | z
      · obtain ⟨c0, y1, y2⟩ := ha pos' cv z
        exact ⟨c0, y1, s1 _ _ y2⟩
      · exact ⟨c1, z, upd_same⟩
    rw [upd_comm (Ne.symm nPc)] at e2
    exact lay J s1 e2 upd_same
  | some cv =>
    obtain ⟨c1, ec, hco⟩ := ha pos cv hc
    subst ec
    refine PySem.W.kla_makeFunctionHit (mg := X.mg) (c := c) (P := P) (ps := ps) cl I.ok.glob (I.mod.glob.keeps I.bk) hcode (TB.code.keeps I.bk) hP2 ht hc bP fun ct h1 t1 hx hsz => ?_
    exact lay (I.kept hx) (Sub.refl F) e hco
end
end Dl

set_option Elab.async false
set_option linter.all false
set_option maxRecDepth 100000
set_option maxHeartbeats 4000000
/-! DlBfs: the first of the shortest words behind which something holds, layer by layer; plain, and for loops. -/
namespace Dl
open PySem PySem.Spec PyProof.Rows L2
/-- strictly ahead -/
def lx : List Int → List Int → Prop
  | a :: s, b :: t => a < b ∨ (a = b ∧ lx s t)
  | _, _ => False
theorem lx_irrefl : ∀ f : List Int, ¬ lx f f
  | [] => fun h => h
  | a :: s => fun h => h.elim (fun h => by omega) fun h => lx_irrefl s h.2
theorem lx_trans : ∀ {f g h : List Int}, lx f g → lx g h → lx f h
  | [], _, _, h1, _ => h1.elim
  | _ :: _, [], _, h1, _ => h1.elim
  | _ :: _, _ :: _, [], _, h2 => h2.elim
  | a :: s, b :: t, c :: u, h1, h2 => by
    rcases h1 with h1 | ⟨rfl, h1⟩
    · rcases h2 with h2 | ⟨rfl, _⟩
      · exact .inl (by omega)
      · exact .inl h1
    · rcases h2 with h2 | ⟨rfl, h2⟩
      · exact .inl h2
      · exact .inr ⟨rfl, lx_trans h1 h2⟩
theorem lx_tri : ∀ {f g : List Int}, f.length = g.length → lx f g ∨ f = g ∨ lx g f
  | [], [], _ => .inr (.inl rfl)
  | [], _ :: _, h => by simp at h
  | _ :: _, [], h => by simp at h
  | a :: s, b :: t, h => by
    by_cases h1 : a < b
    · exact .inl (.inl h1)
    · by_cases h2 : b < a
      · exact .inr (.inr (.inl h2))
      · have e : a = b := by omega
        subst e
        rcases lx_tri (f := s) (g := t) (by simpa using h) with z | z | z
        · exact .inl (.inr ⟨rfl, z⟩)
        · exact .inr (.inl (by rw [z]))
        · exact .inr (.inr (.inr ⟨rfl, z⟩))
theorem lx_app (u v : List Int) : ∀ {f g : List Int}, lx f g → lx (f ++ u) (g ++ v)
  | [], _, h => h.elim
  | _ :: _, [], h => h.elim
  | a :: s, b :: t, h => h.elim .inl fun h => .inr ⟨h.1, lx_app u v h.2⟩
theorem lx_last {p q : Int} (h : p < q) : ∀ f : List Int, lx (f ++ [p]) (f ++ [q])
  | [] => .inl h
  | _ :: s => .inr ⟨rfl, lx_last h s⟩
/-- the first of the shortest -/
def First (Bd : List Int → Prop) : Option (List Int) → Prop
  | none => ∀ f, ¬ Bd f
  | some f => Bd f ∧ ∀ g, Bd g → f.length ≤ g.length ∧ (g.length = f.length → ¬ lx g f)
theorem First.one {Bd Bd' : List Int → Prop} (e : ∀ f, Bd f ↔ Bd' f) : ∀ {a b : Option (List Int)}, First Bd a → First Bd' b → a = b
  | none, none, _, _ => rfl
  | none, some g, h1, h2 => absurd ((e g).mpr h2.1) (h1 g)
  | some f, none, h1, h2 => absurd ((e f).mp h1.1) (h2 f)
  | some f, some g, h1, h2 => by
    obtain ⟨a1, a2⟩ := h1.2 g ((e g).mpr h2.1)
    obtain ⟨b1, b2⟩ := h2.2 f ((e f).mp h1.1)
    have hl : f.length = g.length := by omega
    rcases lx_tri hl with z | z | z
    · exact absurd z (b2 hl)
    · rw [z]
    · exact absurd z (a2 hl.symm)
/-- a loop that may stop with something -/
def runX {α β ρ : Type} (f : α → β → α × Option ρ) : List β → α → α × Option ρ
  | [], a => (a, none)
  | b :: l, a => match (f a b).2 with
    | some z => ((f a b).1, some z)
    | none => runX f l (f a b).1
theorem runX_no {α β ρ : Type} {f : α → β → α × Option ρ} {b : β} {l : List β} {a : α} (e : (f a b).2 = none) : runX f (b :: l) a = runX f l (f a b).1 := by
  show (match (f a b).2 with | some z => ((f a b).1, some z) | none => runX f l (f a b).1) = _
  rw [e]
theorem runX_yes {α β ρ : Type} {f : α → β → α × Option ρ} {b : β} {l : List β} {a : α} {z : ρ} (e : (f a b).2 = some z) : runX f (b :: l) a = ((f a b).1, some z) := by
  show (match (f a b).2 with | some z => ((f a b).1, some z) | none => runX f l (f a b).1) = _
  rw [e]
theorem runX_app {α β ρ : Type} (f : α → β → α × Option ρ) : ∀ (l m : List β) (a : α), runX f (l ++ m) a = match (runX f l a).2 with
    | some z => ((runX f l a).1, some z)
    | none => runX f m (runX f l a).1
  | [], m, a => rfl
  | b :: l, m, a => by
    show runX f (b :: (l ++ m)) a = _
    cases e : (f a b).2 with
    | some z => rw [runX_yes e, runX_yes e]
    | none =>
      rw [runX_no e, runX_no e]
      exact runX_app f l m _
theorem runX_flat {α β γ ρ : Type} (f : α → γ → α × Option ρ) (g : β → List γ) : ∀ (l : List β) (a : α), runX f (l.flatMap g) a = runX (fun a b => runX f (g b) a) l a
  | [], a => rfl
  | b :: l, a => by
    rw [List.flatMap_cons, runX_app]
    cases e : (runX f (g b) a).2 with
    | some z => rw [runX_yes (f := fun a b => runX f (g b) a) e]
    | none =>
      rw [runX_no (f := fun a b => runX f (g b) a) e]
      exact runX_flat f g l _
theorem runX_map {α β γ ρ : Type} (f : α → γ → α × Option ρ) (g : β → γ) : ∀ (l : List β) (a : α), runX f (l.map g) a = runX (fun a b => f a (g b)) l a
  | [], a => rfl
  | b :: l, a => by
    rw [List.map_cons]
    cases e : (f a (g b)).2 with
    | some z => rw [runX_yes e, runX_yes (f := fun a b => f a (g b)) e]
    | none =>
      rw [runX_no e, runX_no (f := fun a b => f a (g b)) e]
      exact runX_map f g l _
section
variable {κ : Type} [DecidableEq κ] (pics : κ → List Int) (nx : κ → Int → κ) (bad keep : κ → Bool)
/-- a word, where it leads -/
abbrev En (κ : Type) : Type := List Int × κ
def cands (L : List (En κ)) : List (En κ) := L.flatMap fun e => (pics e.2).map fun p => (e.1 ++ [p], nx e.2 p)
def newC (S : List κ) : List (En κ) → List (En κ)
  | [] => []
  | c :: C => if keep c.2 = true ∧ c.2 ∉ S then c :: newC (S ++ [c.2]) C else newC S C
/-- one word -/
def bC (s : List (En κ) × List κ) (c : En κ) : (List (En κ) × List κ) × Option (List Int) :=
  if bad c.2 = true then (s, some c.1) else if keep c.2 = true ∧ c.2 ∉ s.2 then ((s.1 ++ [c], s.2 ++ [c.2]), none) else (s, none)
theorem runX_bC : ∀ (C : List (En κ)) (s : List (En κ) × List κ), match C.find? (fun c => bad c.2) with
    | some c => (runX (bC bad keep) C s).2 = some c.1
    | none => runX (bC bad keep) C s = ((s.1 ++ newC keep s.2 C, s.2 ++ (newC keep s.2 C).map (·.2)), none)
  | [], s => by
    show ((s.1, s.2), none) = ((s.1 ++ [], s.2 ++ []), none)
    rw [List.append_nil, List.append_nil]
  | c :: C, s => by
    rw [List.find?_cons]
    cases hb : bad c.2 with
    | true =>
      have e : (bC bad keep s c).2 = some c.1 := by
        unfold bC
        rw [if_pos hb]
      show (runX (bC bad keep) (c :: C) s).2 = some c.1
      rw [runX_yes e]
    | false =>
      have hb' : ¬ bad c.2 = true := by rw [hb]; decide
      by_cases hk : keep c.2 = true ∧ c.2 ∉ s.2
      · have e0 : bC bad keep s c = ((s.1 ++ [c], s.2 ++ [c.2]), none) := by
          unfold bC
          rw [if_neg hb', if_pos hk]
        have e : runX (bC bad keep) (c :: C) s = runX (bC bad keep) C (s.1 ++ [c], s.2 ++ [c.2]) := by
          rw [runX_no (by rw [e0]), e0]
        have f : newC keep s.2 (c :: C) = c :: newC keep (s.2 ++ [c.2]) C := if_pos hk
        rw [e, f]
        have ih := runX_bC C (s.1 ++ [c], s.2 ++ [c.2])
        show match C.find? (fun c => bad c.2) with | some c => _ | none => _
        cases hf : C.find? (fun c => bad c.2) with
        | some c' => rw [hf] at ih; exact ih
        | none =>
          rw [hf] at ih
          show _ = _
          rw [ih]
          show ((s.1 ++ [c] ++ _, s.2 ++ [c.2] ++ _), none) = _
          rw [List.append_assoc, List.append_assoc] <;> rfl
      · have e0 : bC bad keep s c = (s, none) := by
          unfold bC
          rw [if_neg hb', if_neg hk]
        have e : runX (bC bad keep) (c :: C) s = runX (bC bad keep) C s := by
          rw [runX_no (by rw [e0]), e0]
        have f : newC keep s.2 (c :: C) = newC keep s.2 C := if_neg hk
        rw [e, f]
        exact runX_bC C s
/-- layer by layer -/
def bW : Nat → List (En κ) → List κ → Option (List Int)
  | 0, _, _ => none
  | n + 1, L, S => if L.isEmpty then none else match (cands pics nx L).find? (fun c => bad c.2) with
    | some c => some c.1
    | none => bW n (newC keep S (cands pics nx L)) (S ++ (newC keep S (cands pics nx L)).map (·.2))
variable {pics nx bad keep}
theorem bf_sub : ∀ (S : List κ) (C : List (En κ)), (newC keep S C).Sublist C
  | _, [] => .slnil
  | S, c :: C => by
    unfold newC
    split
    · exact .cons_cons _ (bf_sub _ C)
    · exact .cons _ (bf_sub S C)
theorem bf_nodup : ∀ {S : List κ} (C : List (En κ)), S.Nodup → (S ++ (newC keep S C).map (·.2)).Nodup
  | S, [], h => by
    show (S ++ []).Nodup
    rw [List.append_nil]
    exact h
  | S, c :: C, h => by
    unfold newC
    split
    · rename_i hk
      have := bf_nodup (S := S ++ [c.2]) C (List.nodup_append.mpr ⟨h, by simp, fun a ha b hb e => hk.2 (by rw [List.mem_singleton.mp hb] at e; rw [← e]; exact ha)⟩)
      rw [List.append_assoc] at this
      exact this
    · exact bf_nodup C h
theorem bf_has : ∀ {S : List κ} {C : List (En κ)}, C.Pairwise (fun a b => lx a.1 b.1) → ∀ c ∈ C, keep c.2 = true → c.2 ∈ S ∨ ∃ c' ∈ newC keep S C, c'.2 = c.2 ∧ (c' = c ∨ lx c'.1 c.1)
  | S, d :: C, hp, c, hc, hk => by
    obtain ⟨h1, h2⟩ := List.pairwise_cons.mp hp
    unfold newC
    rcases List.mem_cons.mp hc with rfl | hc
    · split
      · exact .inr ⟨c, List.mem_cons_self, rfl, .inl rfl⟩
      · rename_i hn
        by_cases hs : c.2 ∈ S
        · exact .inl hs
        · exact absurd ⟨hk, hs⟩ hn
    · split
      · rcases bf_has (S := S ++ [d.2]) h2 c hc hk with z | ⟨c', a1, a2, a3⟩
        · rcases List.mem_append.mp z with y | y
          · exact .inl y
          · exact .inr ⟨d, List.mem_cons_self, (List.mem_singleton.mp y).symm, .inr (h1 c hc)⟩
        · exact .inr ⟨c', List.mem_cons_of_mem _ a1, a2, a3⟩
      · exact bf_has h2 c hc hk
  | _, [], _, _, hc, _ => nomatch hc
theorem mem_cands {L : List (En κ)} {c : En κ} : c ∈ cands pics nx L ↔ ∃ e ∈ L, ∃ p ∈ pics e.2, c = (e.1 ++ [p], nx e.2 p) := by
  unfold cands
  rw [List.mem_flatMap]
  constructor
  · rintro ⟨e, he, h⟩
    obtain ⟨p, hp, rfl⟩ := List.mem_map.mp h
    exact ⟨e, he, p, hp, rfl⟩
  · rintro ⟨e, he, p, hp, rfl⟩
    exact ⟨e, he, List.mem_map.mpr ⟨p, hp, rfl⟩⟩
theorem cands_up {L : List (En κ)} (h : L.Pairwise fun a b => lx a.1 b.1) (up : ∀ e ∈ L, (pics e.2).Pairwise (· < ·)) : (cands pics nx L).Pairwise fun a b => lx a.1 b.1 := by
  unfold cands
  rw [List.pairwise_flatMap]
  refine ⟨fun e he => ?_, h.imp fun {e f} hl a ha b hb => ?_⟩
  · rw [List.pairwise_map]
    exact (up e he).imp fun {p q} hpq => lx_last hpq e.1
  · obtain ⟨p, _, rfl⟩ := List.mem_map.mp ha
    obtain ⟨q, _, rfl⟩ := List.mem_map.mp hb
    exact lx_app _ _ hl
/-- a layer -/
structure BI (pics : κ → List Int) (nx : κ → Int → κ) (bad : κ → Bool) (P : κ → Prop) (k0 : κ) (n : Nat) (L : List (En κ)) (S : List κ) : Prop where
  at_ : ∀ e ∈ L, e.1.length = n ∧ e.2 = e.1.foldl nx k0 ∧ P e.2
  ord : L.Pairwise fun a b => lx a.1 b.1
  old : ∀ q ∈ S, P q ∧ ∃ g : List Int, g.length ≤ n ∧ g.foldl nx k0 = q
  no : ∀ f : List Int, f ≠ [] → bad (f.foldl nx k0) = true → n < f.length
  dom : ∀ F : List Int, F ≠ [] → bad (F.foldl nx k0) = true → ∃ F' : List Int, F' ≠ [] ∧ bad (F'.foldl nx k0) = true ∧ (F'.length < F.length ∨ (F'.length = F.length ∧ (F' = F ∨ lx F' F))) ∧ (F'.take n, (F'.take n).foldl nx k0) ∈ L
  nd : S.Nodup
theorem BI.start {P : κ → Prop} {k0 : κ} (h : P k0) : BI pics nx bad P k0 0 [([], k0)] [] where
  at_ := fun e he => by rw [List.mem_singleton.mp he]; exact ⟨rfl, rfl, h⟩
  ord := List.pairwise_singleton _ _
  old := fun q hq => nomatch hq
  no := fun f hf _ => List.length_pos_iff.mpr hf
  dom := fun F h1 h2 => ⟨F, h1, h2, .inr ⟨rfl, .inl rfl⟩, List.mem_singleton.mpr rfl⟩
  nd := List.nodup_nil
theorem take_split {n : Nat} {F : List Int} (h : n < F.length) : ∃ p h', F = F.take n ++ p :: h' ∧ (F.take n).length = n := by
  refine ⟨F[n], F.drop (n + 1), ?_, by rw [List.length_take]; omega⟩
  conv => lhs; rw [← List.take_append_drop n F, List.drop_eq_getElem_cons h]
section
variable {P : κ → Prop} {k0 : κ} {n : Nat} {L : List (En κ)} {S : List κ} (hP : ∀ k p, P k → P (nx k p)) (up : ∀ k, P k → (pics k).Pairwise (· < ·))
  (c1 : ∀ k p h, P k → bad ((p :: h).foldl nx k) = true → p ∈ pics k) (c2 : ∀ k p h, P k → bad (nx k p) = false → h ≠ [] → bad (h.foldl nx (nx k p)) = true → keep (nx k p) = true)
include hP up c1 c2
theorem BI.found (b : BI pics nx bad P k0 n L S) {c : En κ} (h : (cands pics nx L).find? (fun c => bad c.2) = some c) : First (fun f => f ≠ [] ∧ bad (f.foldl nx k0) = true) (some c.1) := by
  have hc := List.mem_of_find?_eq_some h
  have hb : bad c.2 = true := List.find?_some (p := fun c : En κ => bad c.2) h
  obtain ⟨e, he, p, hp, rfl⟩ := mem_cands.mp hc
  obtain ⟨a1, a2, a3⟩ := b.at_ e he
  have cu := cands_up (nx := nx) b.ord fun e he => up _ (b.at_ e he).2.2
  have hrun : (e.1 ++ [p]).foldl nx k0 = nx e.2 p := by rw [List.foldl_append, ← a2] <;> rfl
  have hl : (e.1 ++ [p]).length = n + 1 := by rw [List.length_append, a1] <;> rfl
  refine ⟨⟨by simp, by rw [hrun]; exact hb⟩, fun g ⟨g1, g2⟩ => ?_⟩
  have gl := b.no g g1 g2
  show (e.1 ++ [p]).length ≤ g.length ∧ (g.length = (e.1 ++ [p]).length → ¬ lx g (e.1 ++ [p]))
  rw [hl]
  refine ⟨gl, fun ge hlt => ?_⟩
  obtain ⟨F, f1, f2, f3, f4⟩ := b.dom g g1 g2
  have fl := b.no F f1 f2
  have fe : F.length = n + 1 := by omega
  obtain ⟨q, t, ft, f5⟩ := take_split fl
  have tz : t = [] := by
    have := congrArg List.length ft
    rw [List.length_append, List.length_cons, f5, fe] at this
    exact List.length_eq_zero_iff.mp (by omega)
  subst tz
  have fP := (b.at_ _ f4).2.2
  have fb : bad ((q :: []).foldl nx ((F.take n).foldl nx k0)) = true := by
    rw [ft, List.foldl_append] at f2
    exact f2
  have hq := c1 _ _ _ fP fb
  have hFc : (F, nx ((F.take n).foldl nx k0) q) ∈ cands pics nx L := mem_cands.mpr ⟨_, f4, q, hq, by
    show (F, _) = (F.take n ++ [q], _)
    rw [← ft]⟩
  have dom : lx F g ∨ F = g := by
    rcases f3 with z | ⟨_, z | z⟩
    · omega
    · exact .inr z
    · exact .inl z
  have l1 : lx F (e.1 ++ [p]) := by
    rcases dom with z | z
    · exact lx_trans z hlt
    · rw [z]; exact hlt
  obtain ⟨as, bs, e1, e2⟩ := (List.find?_eq_some_iff_append.mp h).2
  have hn : (F, nx ((F.take n).foldl nx k0) q) ∈ as := by
    rw [e1] at hFc cu
    rcases List.mem_append.mp hFc with z | z
    · exact z
    · rcases List.mem_cons.mp z with y | y
      · have : F = e.1 ++ [p] := congrArg Prod.fst y
        rw [this] at l1
        exact absurd l1 (lx_irrefl _)
      · have := (List.pairwise_cons.mp (List.pairwise_append.mp cu).2.1).1 _ y
        exact absurd (lx_trans l1 this) (lx_irrefl _)
  have := e2 _ hn
  have fb2 : bad (nx ((F.take n).foldl nx k0) q) = true := fb
  rw [show (!bad (nx ((F.take n).foldl nx k0) q)) = false by rw [fb2] <;> rfl] at this
  cases this
theorem BI.next (b : BI pics nx bad P k0 n L S) (h : (cands pics nx L).find? (fun c => bad c.2) = none) : BI pics nx bad P k0 (n + 1) (newC keep S (cands pics nx L)) (S ++ (newC keep S (cands pics nx L)).map (·.2)) := by
  have cu := cands_up (nx := nx) b.ord fun e he => up _ (b.at_ e he).2.2
  have nob : ∀ c ∈ cands pics nx L, bad c.2 = false := fun c hc => by
    have := List.find?_eq_none.mp h c hc
    simpa using this
  have cat : ∀ c ∈ cands pics nx L, c.1.length = n + 1 ∧ c.2 = c.1.foldl nx k0 ∧ P c.2 := fun c hc => by
    obtain ⟨e, he, p, hp, rfl⟩ := mem_cands.mp hc
    obtain ⟨a1, a2, a3⟩ := b.at_ e he
    refine ⟨by show (e.1 ++ [p]).length = _; rw [List.length_append, a1] <;> rfl, ?_, hP _ p a3⟩
    show nx e.2 p = (e.1 ++ [p]).foldl nx k0
    rw [List.foldl_append, ← a2] <;> rfl
  have sub := bf_sub (keep := keep) S (cands pics nx L)
  have split : ∀ F : List Int, F ≠ [] → bad (F.foldl nx k0) = true → (F.take n, (F.take n).foldl nx k0) ∈ L → ∃ p h', F = F.take n ++ p :: h' ∧ (F.take n).length = n ∧ (F.take n ++ [p], nx ((F.take n).foldl nx k0) p) ∈ cands pics nx L ∧ h' ≠ [] := fun F f1 f2 f4 => by
    obtain ⟨p, t, ft, f5⟩ := take_split (b.no F f1 f2)
    have fP := (b.at_ _ f4).2.2
    have fb : bad ((p :: t).foldl nx ((F.take n).foldl nx k0)) = true := by
      rw [ft, List.foldl_append] at f2
      exact f2
    have hc : (F.take n ++ [p], nx ((F.take n).foldl nx k0) p) ∈ cands pics nx L := mem_cands.mpr ⟨_, f4, p, c1 _ _ _ fP fb, rfl⟩
    refine ⟨p, t, ft, f5, hc, fun z => ?_⟩
    subst z
    have fb2 : bad (nx ((F.take n).foldl nx k0) p) = true := fb
    have := nob _ hc
    rw [fb2] at this
    cases this
  have nomore : ∀ f : List Int, f ≠ [] → bad (f.foldl nx k0) = true → n + 1 < f.length := fun f f1 f2 => by
    have k := b.no f f1 f2
    by_cases hl : f.length = n + 1
    · obtain ⟨F, g1, g2, g3, g4⟩ := b.dom f f1 f2
      have gl := b.no F g1 g2
      obtain ⟨p, t, ft, f5, _, hne⟩ := split F g1 g2 g4
      have := congrArg List.length ft
      rw [List.length_append, List.length_cons, f5] at this
      have := List.length_pos_iff.mpr hne
      omega
    · omega
  refine ⟨fun e he => cat e (sub.subset he), cu.sublist sub, fun q hq => ?_, nomore, ?_, bf_nodup _ b.nd⟩
  · rcases List.mem_append.mp hq with z | z
    · obtain ⟨p1, g, g1, g2⟩ := b.old q z
      exact ⟨p1, g, by omega, g2⟩
    · obtain ⟨c, hc, rfl⟩ := List.mem_map.mp z
      obtain ⟨k1, k2, k3⟩ := cat c (sub.subset hc)
      exact ⟨k3, c.1, by omega, k2.symm⟩
  · have main : ∀ (m : Nat) (F : List Int), F.length ≤ m → F ≠ [] → bad (F.foldl nx k0) = true → ∃ F' : List Int, F' ≠ [] ∧ bad (F'.foldl nx k0) = true ∧ (F'.length < F.length ∨ (F'.length = F.length ∧ (F' = F ∨ lx F' F))) ∧ (F'.take (n + 1), (F'.take (n + 1)).foldl nx k0) ∈ newC keep S (cands pics nx L) := by
      intro m
      induction m with
      | zero => intro F hF h1 _; exact absurd (List.length_eq_zero_iff.mp (by omega)) h1
      | succ m ih =>
        intro F hF h1 h2
        obtain ⟨F', g1, g2, g3, g4⟩ := b.dom F h1 h2
        obtain ⟨p, t, ft, f5, hc, hne⟩ := split F' g1 g2 g4
        have fP := (b.at_ _ g4).2.2
        have run : ∀ (w : List Int) (q : κ), w.foldl nx k0 = q → (w ++ t).foldl nx k0 = t.foldl nx q := fun w q e => by rw [List.foldl_append, e]
        have hrc : (F'.take n ++ [p]).foldl nx k0 = nx ((F'.take n).foldl nx k0) p := by rw [List.foldl_append] <;> rfl
        have ft2 : F' = (F'.take n ++ [p]) ++ t := by
          rw [List.append_assoc]
          exact ft
        have tb : bad (t.foldl nx (nx ((F'.take n).foldl nx k0) p)) = true := by
          rw [ft2, run _ _ hrc] at g2
          exact g2
        have hk := c2 _ p t fP (nob _ hc) hne tb
        have pre : ∀ w : List Int, w.length = n + 1 → (w ++ t).take (n + 1) = w := fun w hw => List.take_left' hw
        have lf : F'.length = n + 1 + t.length := by
          have := congrArg List.length ft2
          rw [List.length_append, List.length_append, f5] at this
          exact this
        rcases bf_has (S := S) cu _ hc hk with z | ⟨c', a1, a2, a3⟩
        · obtain ⟨_, g, k1, k2⟩ := b.old _ z
          have k2 : g.foldl nx k0 = nx ((F'.take n).foldl nx k0) p := k2
          have gl : (g ++ t).length < F'.length := by
            rw [List.length_append]
            omega
          obtain ⟨F2, y1, y2, y3, y4⟩ := ih (g ++ t) (by omega) (by simp [hne]) (by rw [run g _ k2]; exact tb)
          exact ⟨F2, y1, y2, .inl (by omega), y4⟩
        · obtain ⟨k1, k2, k3⟩ := cat c' (sub.subset a1)
          have a2 : c'.2 = nx ((F'.take n).foldl nx k0) p := a2
          have hb : bad ((c'.1 ++ t).foldl nx k0) = true := by
            rw [run c'.1 _ k2.symm, a2]
            exact tb
          refine ⟨c'.1 ++ t, by simp [hne], hb, ?_, ?_⟩
          · have l1 : (c'.1 ++ t).length = F'.length := by
              rw [List.length_append]
              omega
            have ord : (c'.1 ++ t) = F' ∨ lx (c'.1 ++ t) F' := by
              rcases a3 with z | z
              · left
                rw [z]
                exact ft2.symm
              · right
                have := lx_app t t z
                rw [← ft2] at this
                exact this
            rcases g3 with z | ⟨z, y⟩
            · exact .inl (by omega)
            · refine .inr ⟨by omega, ?_⟩
              rcases ord with o | o
              · rw [o]
                exact y
              · rcases y with y | y
                · rw [y] at o
                  exact .inr o
                · exact .inr (lx_trans o y)
          · rw [pre c'.1 k1, ← k2]
            exact a1
    exact fun F h1 h2 => main F.length F (Nat.le_refl _) h1 h2
theorem bW_first {U : List κ} (hU : ∀ k, P k → k ∈ U) : ∀ (m n : Nat) (L : List (En κ)) (S : List κ), BI pics nx bad P k0 n L S → (L = [] → 1 ≤ m) → (L ≠ [] → U.length + 2 ≤ m + S.length) → First (fun f => f ≠ [] ∧ bad (f.foldl nx k0) = true) (bW pics nx bad keep m L S)
  | 0, n, L, S, b, h1, h2 => by
    have sl := nodup_sub S U b.nd fun q hq => hU q (b.old q hq).1
    by_cases e : L = []
    · have := h1 e
      omega
    · have := h2 e
      omega
  | m + 1, n, L, S, b, h1, h2 => by
    unfold bW
    by_cases e : L = []
    · subst e
      rw [if_pos (by rfl)]
      intro f ⟨f1, f2⟩
      obtain ⟨_, _, _, _, z⟩ := b.dom f f1 f2
      cases z
    · rw [if_neg (by simpa using e)]
      cases hf : (cands pics nx L).find? (fun c => bad c.2) with
      | some c => exact b.found hP up c1 c2 hf
      | none =>
        have b2 := b.next hP up c1 c2 hf
        have sl := nodup_sub S U b.nd fun q hq => hU q (b.old q hq).1
        have sl2 := nodup_sub _ U b2.nd fun q hq => hU q (b2.old q hq).1
        rw [List.length_append, List.length_map] at sl2
        have k := h2 e
        refine bW_first hU m (n + 1) _ _ b2 (fun z => by omega) fun z => ?_
        have := List.length_pos_iff.mpr z
        rw [List.length_append, List.length_map]
        omega
end
end
/-! ### the loops -/
section
variable {T : Tbs} {X : Cx} {W : WX} {tg c : Expr} {body : List Stmt} {mu : List Dt}
/-- a for that may return -/
theorem for_x {α β ρ : Type} (C : α → List Cell) (t : β → Dt) (f : α → β → α × Option ρ) (z : ρ → Dt) (P : α → Prop) : ∀ (l : List β) (a : α), P a → (∀ a b, P a → b ∈ l → ((f a b).2 = none → P (f a b).1) ∧ ∃ (G1 : List Cell) (ix : List Nat) (G2 : List Cell), PG X tg (rdG X.K T (C a) mu (t b) G1 ix) ∧ SDs T X W G1 mu body (match (f a b).2 with | some d => .ret (.dat (z d)) mu | none => .nx G2 mu) ∧ Wk (C (f a b).1) G2) →
    ForTo T X W tg body (l.map t) (C a) mu (match (runX f l a).2 with | some d => .ret (.dat (z d)) mu | none => .nx (C (runX f l a).1) mu)
  | [], a, _, _ => .nil
  | b :: l, a, ha, h => by
    obtain ⟨h1, G1, ix, G2, h2, h3, h4⟩ := h a b ha List.mem_cons_self
    cases e : (f a b).2 with
    | some y =>
      rw [runX_yes e]
      rw [e] at h3
      exact .ret h2 h3
    | none =>
      rw [runX_no e]
      rw [e] at h3
      exact .next h2 (ss_weak h3 h4) (for_x C t f z P l (f a b).1 (h1 e) fun a b ha hb => h a b ha (List.mem_cons_of_mem _ hb))
variable {κ : Type} [DecidableEq κ] {pics : κ → List Int} {nx : κ → Int → κ} {bad keep : κ → Bool}
/-- a while, layer by layer -/
theorem while_bfs (C : List (En κ) → List κ → List Cell) (G0 : List Cell) (z : List Int → Dt) (Q : List (En κ) → List κ → Prop) {U : List κ} {P : κ → Prop} {k0 : κ} (hP : ∀ k p, P k → P (nx k p)) (up : ∀ k, P k → (pics k).Pairwise (· < ·))
    (c1 : ∀ k p h, P k → bad ((p :: h).foldl nx k) = true → p ∈ pics k) (c2 : ∀ k p h, P k → bad (nx k p) = false → h ≠ [] → bad (h.foldl nx (nx k p)) = true → keep (nx k p) = true) (hU : ∀ k, P k → k ∈ U)
    (ht : ∀ L S, EvT T X (C L S) mu c (!L.isEmpty) mu) (hw : ∀ L S, Wk G0 (C L S))
    (hb : ∀ n L S, BI pics nx bad P k0 n L S → n ≤ S.length → ∃ G2, SDs T X W (C L S) mu body (match (cands pics nx L).find? (fun c => bad c.2) with | some c => .ret (.dat (z c.1)) mu | none => .nx G2 mu) ∧ ((cands pics nx L).find? (fun c => bad c.2) = none → Wk (C (newC keep S (cands pics nx L)) (S ++ (newC keep S (cands pics nx L)).map (·.2))) G2)) :
    ∀ (m n : Nat) (L : List (En κ)) (S : List κ), BI pics nx bad P k0 n L S → (L ≠ [] → n ≤ S.length) → (L = [] → 1 ≤ m) → (L ≠ [] → U.length + 2 ≤ m + S.length) → match bW pics nx bad keep m L S with
      | some f => WhileTo T X W c body m (C L S) mu (.ret (.dat (z f)) mu)
      | none => ∃ G', Wk G0 G' ∧ WhileTo T X W c body m (C L S) mu (.nx G' mu)
  | 0, n, L, S, b, _, h1, h2 => by
    have sl := nodup_sub S U b.nd fun q hq => hU q (b.old q hq).1
    by_cases e : L = []
    · have := h1 e
      omega
    · have := h2 e
      omega
  | m + 1, n, L, S, b, hn, h1, h2 => by
    unfold bW
    have kt := ht L S
    by_cases e : L = []
    · subst e
      rw [if_pos (by rfl)]
      exact ⟨_, hw _ _, .done kt⟩
    · rw [if_neg (by simpa using e)]
      have et : (!L.isEmpty) = true := by cases L with
        | nil => exact absurd rfl e
        | cons _ _ => rfl
      rw [et] at kt
      obtain ⟨G2, k1, k2⟩ := hb n L S b (hn e)
      cases hf : (cands pics nx L).find? (fun c => bad c.2) with
      | some c =>
        rw [hf] at k1
        exact .ret kt k1
      | none =>
        rw [hf] at k1
        have k2 := k2 hf
        have b2 := b.next hP up c1 c2 hf
        have sl := nodup_sub S U b.nd fun q hq => hU q (b.old q hq).1
        have sl2 := nodup_sub _ U b2.nd fun q hq => hU q (b2.old q hq).1
        rw [List.length_append, List.length_map] at sl2
        have k := h2 e
        have hn1 := hn e
        have r := while_bfs C G0 z Q hP up c1 c2 hU ht hw hb m (n + 1) _ _ b2 (fun y => by
          have := List.length_pos_iff.mpr y
          rw [List.length_append, List.length_map]
          omega) (fun y => by omega) fun y => by
          have := List.length_pos_iff.mpr y
          rw [List.length_append, List.length_map]
          omega
        show match bW pics nx bad keep m _ _ with | some f => _ | none => _
        cases hr : bW pics nx bad keep m (newC keep S (cands pics nx L)) (S ++ (newC keep S (cands pics nx L)).map (·.2)) with
        | some f =>
          rw [hr] at r
          exact .next kt (ss_weak k1 k2) r
        | none =>
          rw [hr] at r
          obtain ⟨G', y1, y2⟩ := r
          exact ⟨G', y1, .next kt (ss_weak k1 k2) y2⟩
/-- .. and what stands behind it -/
theorem ss_bfs {pos : Pos} {rest : List Stmt} {o : SOut} (hp : PassesOwn (model X.prog X.w) X.A X.env X.xe) (C : List (En κ) → List κ → List Cell) (G0 : List Cell) (z : List Int → Dt) {U : List κ} {P : κ → Prop} {k0 : κ} (hP : ∀ k p, P k → P (nx k p)) (up : ∀ k, P k → (pics k).Pairwise (· < ·))
    (c1 : ∀ k p h, P k → bad ((p :: h).foldl nx k) = true → p ∈ pics k) (c2 : ∀ k p h, P k → bad (nx k p) = false → h ≠ [] → bad (h.foldl nx (nx k p)) = true → keep (nx k p) = true) (hU : ∀ k, P k → k ∈ U) (m : Nat) (hm : U.length + 2 ≤ m) (h0 : P k0)
    (ht : ∀ L S, EvT T X (C L S) mu c (!L.isEmpty) mu) (hw : ∀ L S, Wk G0 (C L S))
    (hb : ∀ n L S, BI pics nx bad P k0 n L S → n ≤ S.length → ∃ G2, SDs T X W (C L S) mu body (match (cands pics nx L).find? (fun c => bad c.2) with | some c => .ret (.dat (z c.1)) mu | none => .nx G2 mu) ∧ ((cands pics nx L).find? (fun c => bad c.2) = none → Wk (C (newC keep S (cands pics nx L)) (S ++ (newC keep S (cands pics nx L)).map (·.2))) G2))
    (hs : ∀ f, bW pics nx bad keep m [([], k0)] [] = some f → o = .ret (.dat (z f)) mu) (hr : bW pics nx bad keep m [([], k0)] [] = none → SDs T X W G0 mu rest o) : SDs T X W (C [([], k0)] []) mu (.While c body [] pos :: rest) o := by
  have r := while_bfs (W := W) (body := body) (c := c) C G0 z (fun _ _ => True) hP up c1 c2 hU ht hw hb m 0 [([], k0)] [] (.start h0) (fun _ => Nat.le_refl _) (fun h => nomatch h) fun _ => by
    show U.length + 2 ≤ m + 0
    omega
  cases e : bW pics nx bad keep m [([], k0)] [] with
  | some f =>
    rw [e] at r
    rw [hs f e]
    exact ss_stop (sd_while hp r)
  | none =>
    rw [e] at r
    obtain ⟨G', y1, y2⟩ := r
    exact ss_cons (sd_weak (sd_while hp y2) y1) (hr e)
/-- a for that may return, and what stands behind it -/
theorem ss_forX {α β ρ : Type} {pos : Pos} {iter : Expr} {rest : List Stmt} {o : SOut} {mu0 : List Dt} {G : List Cell} (hp : PassesOwn (model X.prog X.w) X.A X.env X.xe) (hc : X.calm = true) (C : α → List Cell) (t : β → Dt) (f : α → β → α × Option ρ) (z : ρ → Dt) (P : α → Prop) (l : List β) (a : α) (hw : Wk (C a) G)
    (hi : EvI T X (C a) mu0 tg iter (l.map t) mu) (h0 : P a) (h : ∀ a b, P a → b ∈ l → ((f a b).2 = none → P (f a b).1) ∧ ∃ (G1 : List Cell) (ix : List Nat) (G2 : List Cell), PG X tg (rdG X.K T (C a) mu (t b) G1 ix) ∧ SDs T X W G1 mu body (match (f a b).2 with | some d => .ret (.dat (z d)) mu | none => .nx G2 mu) ∧ Wk (C (f a b).1) G2)
    (hs : ∀ d, (runX f l a).2 = some d → o = .ret (.dat (z d)) mu) (hr : (runX f l a).2 = none → SDs T X W (C (runX f l a).1) mu rest o) (hf : ∀ x, foldedSetIterable iter X.env x = pure x := by intro _; rfl) : SDs T X W G mu0 (.For tg iter body [] pos :: rest) o := by
  have k := sd_for (pos := pos) hp hc hi (for_x (W := W) (body := body) C t f z P l a h0 h) hf
  refine ss_pre ?_ hw
  cases e : (runX f l a).2 with
  | some d =>
    rw [e] at k
    rw [hs d e]
    exact ss_stop k
  | none =>
    rw [e] at k
    exact ss_cons k (hr e)
end
end Dl

set_option Elab.async false
set_option linter.all false
set_option maxRecDepth 100000
set_option maxHeartbeats 4000000
namespace K63
open PySem PySem.Spec PyProof.Rows L2 Dl
/-! ### lots of states of two reels -/
abbrev PSt : Type := Option (List Int) × Option (List Int)
def tK (k : PSt) : Dt := .tup [dOT k.1, dOT k.2]
theorem kd_ints (n : Nat) (l : List Int) : kd (n + 1) (dInts l) = true := by
  show (l.map Dt.int).all (kd n) = true
  rw [List.all_eq_true]
  intro d hd
  obtain ⟨x, _, rfl⟩ := List.mem_map.mp hd
  cases n <;> rfl
theorem kd_OT (n : Nat) (o : Option (List Int)) : kd (n + 1) (dOT o) = true := by
  cases o with
  | none => rfl
  | some l => exact kd_ints n l
theorem nkeys_ints : ∀ {a b : List Int}, nkeys (a.map Dt.int) = nkeys (b.map Dt.int) → a = b
  | [], [], _ => rfl
  | [], y :: b, h => by cases h
  | x :: a, [], h => by cases h
  | x :: a, y :: b, h => by
    have h : NestedKey.num x :: nkeys (a.map Dt.int) = NestedKey.num y :: nkeys (b.map Dt.int) := h
    rw [NestedKey.num.inj (List.cons.inj h).1, nkeys_ints (List.cons.inj h).2]
theorem nkey_OT {a b : Option (List Int)} (h : nkey (dOT a) = nkey (dOT b)) : a = b := by
  cases a with
  | none => cases b with
    | none => rfl
    | some l => cases h
  | some k => cases b with
    | none => cases h
    | some l =>
      have h : NestedKey.tup (nkeys (k.map .int)) = NestedKey.tup (nkeys (l.map .int)) := h
      rw [nkeys_ints (NestedKey.tup.inj h)]
def subsL : List Int → List (List Int)
  | [] => [[]]
  | x :: l => subsL l ++ (subsL l).map (x :: ·)
theorem subs_mem {l u : List Int} (h : l.Sublist u) : l ∈ subsL u := by
  induction h with
  | slnil => exact List.mem_singleton.mpr rfl
  | cons x _ ih => exact List.mem_append.mpr (.inl ih)
  | cons_cons x _ ih => exact List.mem_append.mpr (.inr (List.mem_map.mpr ⟨_, ih, rfl⟩))
theorem subs_len : ∀ l : List Int, (subsL l).length = 2 ^ l.length
  | [] => rfl
  | x :: l => by
    show (subsL l ++ (subsL l).map (x :: ·)).length = 2 ^ (l.length + 1)
    rw [List.length_append, List.length_map, subs_len l, Nat.pow_succ]
    omega
theorem upToN_up (n : Nat) : (upToN n).Pairwise (· < ·) := by
  unfold upToN
  rw [List.pairwise_map]
  exact List.pairwise_lt_range.imp fun h => by omega
theorem st_sub {n : Nat} {l : List Int} (h : l.Pairwise (· < ·)) (hr : ∀ x ∈ l, 0 ≤ x ∧ x < n) : l ∈ subsL (upToN n) := by
  have e : l = (upToN n).filter fun x => decide (x ∈ l) := by
    refine lt_ext h ((upToN_up n).sublist List.filter_sublist) fun k => ?_
    rw [List.mem_filter]
    exact ⟨fun hk => ⟨upTo_mem (hr k hk), decide_eq_true hk⟩, fun hk => of_decide_eq_true hk.2⟩
  rw [e]
  exact subs_mem List.filter_sublist
def optsR (r : Reel) : List (Option (List Int)) := none :: (subsL (upToN r.1.length)).map some
theorem opts_mem {r : Reel} {o : Option (List Int)} (h : GoodO r.1 o) : o ∈ optsR r := by
  cases o with
  | none => exact List.mem_cons_self
  | some l =>
    have := h l rfl
    exact List.mem_cons_of_mem _ (List.mem_map.mpr ⟨l, st_sub this.up this.rg, rfl⟩)
theorem opts_len {r : Reel} (g : GoodN r.1) : (optsR r).length ≤ 65 := by
  unfold optsR
  rw [List.length_cons, List.length_map, subs_len, upTo_len]
  have : 2 ^ r.1.length ≤ 64 := Nat.pow_le_pow_right (by decide) g.hi
  omega
theorem pic_mem {r : Reel} (g : GoodR r.1 r.2) {s : Int} (h : 0 ≤ s ∧ s < r.1.length) : pic r.2 s ∈ r.2 := by
  have hl : s.toNat < r.2.length := by
    rw [g.len]
    omega
  unfold pic
  rw [List.getElem?_eq_getElem hl]
  exact List.getElem_mem hl
theorem see_mem {r : Reel} (g : GoodR r.1 r.2) {gap : Option Int} {o : Option (List Int)} (ho : GoodO r.1 o) {p x : Int} (h : x ∈ seeS r.1 r.2 gap o p) : p ∈ r.2 ∧ p ∈ ssetI ((mayBe r.1 gap o).map (pic r.2)) := by
  unfold seeS at h
  obtain ⟨h1, h2⟩ := List.mem_filter.mp h
  have h2 : pic r.2 x = p := of_decide_eq_true h2
  have hr := (mayBe_ok g.n gap ho).rg x h1
  exact ⟨by rw [← h2]; exact pic_mem g hr, mem_ssetI.mpr (List.mem_map.mpr ⟨x, h1, h2⟩)⟩
theorem ktK : KeyT PSt tK := ⟨fun k => by
  show (kd 7 (dOT k.1) && (kd 7 (dOT k.2) && true)) = true
  rw [kd_OT 6, kd_OT 6] <;> rfl, fun _ => ⟨_, rfl⟩, fun a b h => by
  have h : NestedKey.tup [nkey (dOT a.1), nkey (dOT a.2)] = NestedKey.tup [nkey (dOT b.1), nkey (dOT b.2)] := h
  have h := NestedKey.tup.inj h
  obtain ⟨h1, h⟩ := List.cons.inj h
  exact Prod.ext (nkey_OT h1) (nkey_OT (List.cons.inj h).1)⟩
def univK (one other : Reel) : List PSt := (optsR one).flatMap fun a => (optsR other).map fun b => (a, b)
structure GoodK (one other : Reel) (k : PSt) : Prop where
  a : GoodO one.1 k.1
  b : GoodO other.1 k.2
theorem univK_mem {one other : Reel} {k : PSt} (h : GoodK one other k) : k ∈ univK one other :=
  List.mem_flatMap.mpr ⟨k.1, opts_mem h.a, List.mem_map.mpr ⟨k.2, opts_mem h.b, rfl⟩⟩
theorem flat_lenM {α β : Type} {f : α → List β} {m : Nat} : ∀ {L : List α}, (∀ a ∈ L, (f a).length ≤ m) → (L.flatMap f).length ≤ L.length * m
  | [], _ => by simp
  | a :: L, h => by
    have h1 := h a List.mem_cons_self
    have h2 := flat_lenM (L := L) fun b hb => h b (List.mem_cons_of_mem _ hb)
    rw [List.flatMap_cons, List.length_append, List.length_cons, Nat.succ_mul]
    omega
theorem univK_len {one other : Reel} (g1 : GoodN one.1) (g2 : GoodN other.1) : (univK one other).length ≤ 4225 := by
  have h1 := opts_len g1
  have h2 := opts_len g2
  have := flat_lenM (f := fun a : Option (List Int) => (optsR other).map fun b => (a, b)) (m := 65) (L := optsR one) fun a _ => by
    rw [List.length_map]
    exact h2
  have h3 : (optsR one).length * 65 ≤ 65 * 65 := Nat.mul_le_mul_right _ h1
  unfold univK
  omega
def nxK (one other : Reel) (gap : Option Int) (k : PSt) (p : Int) : PSt := (some (seeS one.1 one.2 gap k.1 p), some (seeS other.1 other.2 gap k.2 p))
def behS (r : Reel) (gap : Option Int) (o : Option (List Int)) : List Int := ssetI ((mayBe r.1 gap o).map (pic r.2))
def picsK (one other : Reel) (gap : Option Int) (k : PSt) : List Int := ssetI (behS one gap k.1 ++ behS other gap k.2)
def allP (one other : Reel) : List Int := ssetI (one.2 ++ other.2)
def dead (o : Option (List Int)) : Bool := decide (o = some [])
def badK (half : Bool) (k : PSt) : Bool := (dead k.1 && !dead k.2) || (!half && (dead k.2 && !dead k.1))
def keepL (k : PSt) : Bool := !dead k.2
def k0 : PSt := (none, none)
theorem may_nil (ns : List (List Int)) (gap : Option Int) : mayBe ns gap (some []) = [] := rfl
theorem see_nil (r : Reel) (gap : Option Int) (p : Int) : seeS r.1 r.2 gap (some []) p = [] := rfl
theorem GoodK.next {one other : Reel} (g1 : GoodN one.1) (g2 : GoodN other.1) {gap : Option Int} {k : PSt} (h : GoodK one other k) (p : Int) : GoodK one other (nxK one other gap k p) :=
  ⟨fun l hl => by cases hl; exact seeS_ok g1 gap h.a, fun l hl => by cases hl; exact seeS_ok g2 gap h.b⟩
theorem GoodK.start (one other : Reel) : GoodK one other k0 := ⟨fun l h => (nomatch h), fun l h => (nomatch h)⟩
theorem dead_some {l : List Int} : dead (some l) = l.isEmpty := by cases l <;> rfl
theorem dead_iff {o : Option (List Int)} : dead o = true ↔ o = some [] := decide_eq_true_iff
theorem run1 (one other : Reel) (gap : Option Int) : ∀ (f : List Int) (k : PSt), (f.foldl (nxK one other gap) k).1 = f.foldl (fun o p => some (seeS one.1 one.2 gap o p)) k.1 ∧ (f.foldl (nxK one other gap) k).2 = f.foldl (fun o p => some (seeS other.1 other.2 gap o p)) k.2
  | [], k => ⟨rfl, rfl⟩
  | p :: f, k => run1 one other gap f (nxK one other gap k p)
/-- dead ones stay so -/
theorem dead_run (r : Reel) (gap : Option Int) : ∀ (f : List Int) {o : Option (List Int)}, dead o = true → dead (f.foldl (fun o p => some (seeS r.1 r.2 gap o p)) o) = true
  | [], o, h => h
  | p :: f, o, h => by
    refine dead_run r gap f (o := some (seeS r.1 r.2 gap o p)) ?_
    rw [dead_iff.mp h] <;> rfl
theorem bad_alive {half : Bool} {k : PSt} (h : badK half k = true) : dead k.1 = false ∨ dead k.2 = false := by
  unfold badK at h
  cases h1 : dead k.1 with
  | false => exact .inl rfl
  | true =>
    cases h2 : dead k.2 with
    | false => exact .inr rfl
    | true => rw [h1, h2] at h; cases half <;> cases h
/-- one side goes on behind the next picture -/
theorem bad_goes {half : Bool} {one other : Reel} {gap : Option Int} {k : PSt} {p : Int} {h : List Int} (hb : badK half ((p :: h).foldl (nxK one other gap) k) = true) : seeS one.1 one.2 gap k.1 p ≠ [] ∨ seeS other.1 other.2 gap k.2 p ≠ [] := by
  obtain ⟨e1, e2⟩ := run1 one other gap h (nxK one other gap k p)
  have hb : badK half (h.foldl (nxK one other gap) (nxK one other gap k p)) = true := hb
  rcases bad_alive hb with z | z
  · left
    intro y
    have d : dead (nxK one other gap k p).1 = true := by
      show dead (some (seeS one.1 one.2 gap k.1 p)) = true
      rw [y] <;> rfl
    have := dead_run one gap h d
    rw [← e1, z] at this
    cases this
  · right
    intro y
    have d : dead (nxK one other gap k p).2 = true := by
      show dead (some (seeS other.1 other.2 gap k.2 p)) = true
      rw [y] <;> rfl
    have := dead_run other gap h d
    rw [← e2, z] at this
    cases this
theorem see_beh {r : Reel} {gap : Option Int} {o : Option (List Int)} {p : Int} (h : seeS r.1 r.2 gap o p ≠ []) : p ∈ behS r gap o := by
  obtain ⟨x, hx⟩ := List.exists_mem_of_ne_nil _ h
  unfold seeS at hx
  obtain ⟨h1, h2⟩ := List.mem_filter.mp hx
  exact mem_ssetI.mpr (List.mem_map.mpr ⟨x, h1, of_decide_eq_true h2⟩)
theorem c1_prog {half : Bool} {one other : Reel} {gap : Option Int} {k : PSt} {p : Int} {h : List Int} (hb : badK half ((p :: h).foldl (nxK one other gap) k) = true) : p ∈ picsK one other gap k := by
  refine mem_ssetI.mpr (List.mem_append.mpr ?_)
  exact (bad_goes hb).imp see_beh see_beh
theorem c1_law {half : Bool} {one other : Reel} (g1 : GoodR one.1 one.2) (g2 : GoodR other.1 other.2) {gap : Option Int} {k : PSt} (gk : GoodK one other k) {p : Int} {h : List Int} (hb : badK half ((p :: h).foldl (nxK one other gap) k) = true) : p ∈ allP one other := by
  refine mem_ssetI.mpr (List.mem_append.mpr ?_)
  rcases bad_goes hb with z | z
  · obtain ⟨x, hx⟩ := List.exists_mem_of_ne_nil _ z
    exact .inl (see_mem g1 gk.a hx).1
  · obtain ⟨x, hx⟩ := List.exists_mem_of_ne_nil _ z
    exact .inr (see_mem g2 gk.b hx).1
theorem c2_law {half : Bool} {one other : Reel} {gap : Option Int} {k : PSt} {h : List Int} (hn : badK half k = false) (hb : badK half (h.foldl (nxK one other gap) k) = true) : keepL k = true := by
  obtain ⟨e1, e2⟩ := run1 one other gap h k
  unfold keepL
  cases h2 : dead k.2 with
  | false => rfl
  | true =>
    have d2 := dead_run other gap h h2
    rw [← e2] at d2
    have h1 : dead k.1 = true ∨ half = true := by
      unfold badK at hn
      rw [h2] at hn
      cases half with
      | true => exact .inr rfl
      | false =>
        cases z : dead k.1 with
        | true => exact .inl rfl
        | false => rw [z] at hn; cases hn
    unfold badK at hb
    rw [d2] at hb
    rcases h1 with z | z
    · have d1 := dead_run one gap h z
      rw [← e1] at d1
      rw [d1] at hb
      cases half <;> cases hb
    · subst z
      cases z1 : dead (h.foldl (nxK one other gap) k).1 with
      | true => rw [z1] at hb; cases hb
      | false => rw [z1] at hb; cases hb
def fuelK : Nat := 4300
/-- the program's, the law's -/
def partP (half : Bool) (one other : Reel) (gap : Option Int) : Option (List Int) := bW (picsK one other gap) (nxK one other gap) (badK half) (fun _ => true) fuelK [([], k0)] []
def partL (half : Bool) (one other : Reel) (gap : Option Int) : Option (List Int) := bW (fun _ => allP one other) (nxK one other gap) (badK half) keepL fuelK [([], k0)] []
def Bd (half : Bool) (one other : Reel) (gap : Option Int) (f : List Int) : Prop := f ≠ [] ∧ badK half (f.foldl (nxK one other gap) k0) = true
section
variable {half : Bool} {one other : Reel} (g1 : GoodR one.1 one.2) (g2 : GoodR other.1 other.2) (gap : Option Int)
include g1 g2
theorem partP_first : First (Bd half one other gap) (partP half one other gap) :=
  bW_first (P := GoodK one other) (fun k p h => h.next g1.n g2.n p) (fun k _ => ssetI_ord _) (fun k p h _ hb => c1_prog hb) (fun _ _ _ _ _ _ _ => rfl) (U := univK one other) (fun k h => univK_mem h) fuelK 0 [([], k0)] [] (.start (.start one other)) (fun h => (nomatch h)) fun _ => by
    have := univK_len g1.n g2.n
    show _ ≤ 4300 + 0
    omega
theorem partL_first : First (Bd half one other gap) (partL half one other gap) :=
  bW_first (P := GoodK one other) (fun k p h => h.next g1.n g2.n p) (fun k _ => ssetI_ord _) (fun k p h gk hb => c1_law g1 g2 gk hb) (fun _ _ _ _ hn _ hb => c2_law hn hb) (U := univK one other) (fun k h => univK_mem h) fuelK 0 [([], k0)] [] (.start (.start one other)) (fun h => (nomatch h)) fun _ => by
    have := univK_len g1.n g2.n
    show _ ≤ 4300 + 0
    omega
theorem part_same : partP half one other gap = partL half one other gap := First.one (fun _ => Iff.rfl) (partP_first g1 g2 gap) (partL_first g1 g2 gap)
end
end K63

set_option Elab.async false
set_option linter.all false
set_option maxRecDepth 100000
set_option maxHeartbeats 4000000
namespace K63
open PySem PySem.Spec PyProof.Rows L2 Dl
theorem once_of {ns : List (List Int)} {l : List Int} (h : St6 ns l) : Once ns l := ⟨h.up.imp fun h => by omega, h.rg⟩
section
variable {κ : Type} [DecidableEq κ]
end
theorem goodL_of {ns : List (List Int)} {o : Option (List Int)} (h : GoodO ns o) : GoodL ns o := fun l hl => once_of (h l hl)
theorem same_refl : ∀ o : Option (List Int), Same o o
  | none => True.intro
  | some _ => fun _ => Iff.rfl
theorem see_same {r : Reel} (g : GoodR r.1 r.2) {gap : Option Int} (gg : GoodG gap) {o : Option (List Int)} (ho : GoodO r.1 o) (p : Int) : lsee r.1 r.2 gap o p = seeS r.1 r.2 gap o p := by
  have h1 := Once.lsee g.n (goodL_of ho) gap r.2 p
  have h2 := seeS_ok g.n gap (ps := r.2) (p := p) ho
  have e : ∀ x, x ∈ lsee r.1 r.2 gap o p ↔ x ∈ seeS r.1 r.2 gap o p := fun x => by
    unfold lsee seeS
    rw [(sortI_perm _).mem_iff, List.mem_filter, List.mem_filter, may_same g.n gg ho (goodL_of ho) (same_refl o)]
  have n2 : (seeS r.1 r.2 gap o p).Nodup := h2.up.imp fun h => by omega
  have pm : (lsee r.1 r.2 gap o p).Perm (seeS r.1 r.2 gap o p) := (List.perm_ext_iff_of_nodup h1.nd n2).mpr e
  exact ord_one pm (sortI_ord _) (h2.up.imp fun h => by omega)
def S_may_beT : FSpec := fun ds mu o => ∃ ns ps gap here, ds = [dReel ns ps, dGap gap, dOT here] ∧ GoodN ns ∧ GoodG gap ∧ GoodO ns here ∧ o = .ret (.dat (.lst ((mayBe ns gap here).map .int))) mu
def S_moved : FSpec := fun ds mu o => ∃ r : Reel, ∃ gap here p, ds = [dR r, dGap gap, dOT here, .int p] ∧ GoodR r.1 r.2 ∧ GoodG gap ∧ GoodO r.1 here ∧ o = .ret (.dat (dInts (seeS r.1 r.2 gap here p))) mu
def S_behind : FSpec := fun ds mu o => ∃ r : Reel, ∃ gap here, ds = [dR r, dGap gap, dOT here] ∧ GoodR r.1 r.2 ∧ GoodG gap ∧ GoodO r.1 here ∧ here ≠ some [] ∧ o = .ret (.dat (.lst ((ssetI ((mayBe r.1 gap here).map (pic r.2))).map .int))) mu
section
variable {P : Program} {w : World} {K : PySem.W.Frag} {mg : Str → Option Value} {base : Heap} (c : Fc fa fn tf tl K mg base)
include c
theorem ok_may_beT : FnG P w K mg base (tabsOf tf tl K) 3 "may_be" S_may_beT := by
  refine fn_DD c d_may_be (g_may_be c) sc_may_be bi_may_be (fun ds mu o ⟨_, _, _, _, h, _⟩ => by rw [h]; rfl) fun A outer s H E hr ds mu o h => ?_
  obtain ⟨ns, ps, gap, here, rfl, g, gg, gh, rfl⟩ := h
  refine ⟨_, .ret, ?_⟩
  cases here with
  | none => exact ss_stop (sifT (et_isnon (ev_val 2)) (ss_one (sd_ret (ev_call (ok_from_start c) hr (ea_cons (ev_val 0) (ea_cons (ev_val 1) ea_nil)) (.dat (.dat .nil)) ⟨ns, ps, gap, rfl, g, gg, rfl⟩)))) 
  | some l =>
    have gl := gh l rfl
    have hl : (l.flatMap fun s => aheadS ns s gap).length ≤ 36 := flat6 (gl.len g) fun s hs => (aheadS_ok g gap (gl.rg s hs)).len g
    have e : (l.map Dt.int).flatMap (fun d => match d with | .int s => (aheadS ns s gap).map Dt.int | _ => []) = (l.flatMap fun s => aheadS ns s gap).map .int := by
      rw [List.flatMap_map, List.map_flatMap]
    refine ss_cons (sif0 (et_isnon (ev_val 2))) (ss_one (sd_retD (sd_retN (ev_sortset rfl (ev_comp2 (own := [("state", 3), ("there", 4)]) (vs1 := [4]) rfl sc_may_be.nd (ei_tup (ev_val 2)) (blkOk_by (by kernel_rfl)) (by decide) (noown rfl)
      (comp2_all (g := fun d => match d with | .int s => (aheadS ns s gap).map .int | _ => []) fun d hd => ?_) ?_) (b_sorted c) (b_set c) (ns := l.flatMap fun s => aheadS ns s gap) (by omega) ?_))))
    · obtain ⟨x, hx, rfl⟩ := List.mem_map.mp hd
      refine ⟨_, _, _, fun s H C cl fp => eg_name sc_may_be.nd 3, by decide, rfl, fun s H C cl fp => ei_list (ev_call (ok_ahead c) hr (ea_cons (ev_val 0) (ea_cons (ev_val 3) (ea_cons (ev_val 1) ea_nil))) (.dat (.dat (.dat .nil))) ⟨ns, ps, x, gap, rfl, g, gl.rg x hx, gg, rfl⟩), noown rfl, comp_id fun d' hd' => ?_⟩
      exact ⟨_, _, fun s H C cl fp => eg_name sc_may_be.nd 4, by decide, rfl, fun s H C cl fp => ev_val 4⟩
    · rw [e, List.length_map]
      omega
    · rw [e]
      rfl
theorem ok_moved : FnG P w K mg base (tabsOf tf tl K) 4 "moved" S_moved := by
  refine fn_DD c d_moved (g_moved c) sc_moved bi_moved (fun ds mu o ⟨_, _, _, _, h, _⟩ => by rw [h]; rfl) fun A outer s H E hr ds mu o h => ?_
  obtain ⟨r, gap, here, p, rfl, g, gg, gh, rfl⟩ := h
  refine ⟨_, .ret, ?_⟩
  have k := mayBe_ok g.n gap gh
  refine ss_one (sd_ret (ev_totup (ev_comp (own := [("state", 4)]) rfl sc_moved.nd (ei_list (ev_call (ok_may_beT c) hr (ea_cons (ev_val 0) (ea_cons (ev_val 1) (ea_cons (ev_val 2) ea_nil))) (.dat (.dat (.dat .nil))) ⟨r.1, r.2, gap, here, rfl, g.n, gg, gh, rfl⟩)) (blkOk_by (by kernel_rfl)) (noown rfl)
    (comp_filtA .int .int (q := fun s => decide (pic r.2 s = p)) fun y hy => ⟨_, _, fun s H C cl fp => eg_name sc_moved.nd 4, by decide, rfl, fun s H C cl fp => ets_one (et_eqI (ev_ixT (ev_ixT (ev_val 0) ev_int rfl) (ev_val 4) (at_pics g (k.rg y hy))) (ev_val 3)), fun _ s H C cl fp => ev_val 4⟩) ?_) (b_tuple c)))
  have h1 := k.len g.n
  have h2 : ((mayBe r.1 gap here).filter fun s => decide (pic r.2 s = p)).length ≤ (mayBe r.1 gap here).length := List.length_filter_le _ _
  rw [List.length_map]
  omega
theorem ok_pictures_behind : FnG P w K mg base (tabsOf tf tl K) 4 "pictures_behind" S_behind := by
  refine fn_DD c d_pictures_behind (g_pictures_behind c) sc_pictures_behind bi_pictures_behind (fun ds mu o ⟨_, _, _, h, _⟩ => by rw [h]; rfl) fun A outer s H E hr ds mu o h => ?_
  obtain ⟨r, gap, here, rfl, g, gg, gh, hne, rfl⟩ := h
  refine ⟨_, .ret, ?_⟩
  have k := mayBe_ok g.n gap gh
  have h1 := k.len g.n
  have hk : PyData.eqv (dOT here).py (Dt.tup []).py = false := by
    cases here with
    | none => rfl
    | some l => cases l with
      | nil => exact absurd rfl hne
      | cons _ _ => rfl
  have hd : (dOT here).dep 60 = true := by
    cases here with
    | none => rfl
    | some l => exact dep_intsT 59 l
  refine ss_one (sd_ret (ev_give (ifxT (et_ne hr.units (ev_val 2) (ev_tup ea_nil .nil) hk hd rfl) (ev_sortset (ns := (mayBe r.1 gap here).map (pic r.2)) rfl (ev_comp (own := [("state", 3)]) rfl sc_pictures_behind.nd (ei_list (ev_call (ok_may_beT c) hr (ea_cons (ev_val 0) (ea_cons (ev_val 1) (ea_cons (ev_val 2) ea_nil))) (.dat (.dat (.dat .nil))) ⟨r.1, r.2, gap, here, rfl, g.n, gg, gh, rfl⟩)) (blkOk_by (by kernel_rfl)) (noown rfl)
    (comp_allA .int (fun s => .int (pic r.2 s)) fun y hy => ⟨_, _, fun s H C cl fp => eg_name sc_pictures_behind.nd 3, by decide, rfl, fun s H C cl fp => ev_ixT (ev_ixT (ev_val 0) ev_int rfl) (ev_val 3) (at_pics g (k.rg y hy))⟩) ?l1) (b_sorted c) (b_set c) ?l2 ?l3))))
  case l1 =>
    rw [List.length_map]
    omega
  case l2 =>
    rw [List.length_map]
    omega
  case l3 =>
    show some (Dt.lst _) = some (Dt.lst _)
    rw [List.map_map] <;> rfl
end
end K63

set_option Elab.async false
set_option linter.all false
set_option maxRecDepth 100000
set_option maxHeartbeats 4000000
namespace K63
open PySem PySem.Spec PyProof.Rows L2 Dl
/-- plain data, so deep at most -/
def plainD : Nat → Dt → Bool
  | _, .non => true
  | _, .bl _ => true
  | _, .int _ => true
  | _, .str _ => true
  | n + 1, .tup ds => decide (ds.length < 1000000) && ds.all (plainD n)
  | n + 1, .lst ds => decide (ds.length < 1000000) && ds.all (plainD n)
  | _, _ => false
def S_alike (n : Nat) : FSpec := fun ds mu o => ∃ d, ds = [d, d] ∧ plainD n d = true ∧ o = .ret (.dat (.bl true)) mu
theorem none_left {n : Nat} : ((upToN n).filter fun _ => false).map Dt.int = [] := by simp
theorem upTo_get {ds : List Dt} {n : Nat} (h : ∀ d ∈ ds, plainD n d = true) {x : Int} (hx : x ∈ upToN ds.length) : ∃ d, atI ds x = some d ∧ plainD n d = true := by
  obtain ⟨h1, h2⟩ := upTo_rg hx
  have hl : x.toNat < ds.length := by omega
  exact ⟨ds[x.toNat], atI_nat (n := x.toNat) (by omega) (List.getElem?_eq_getElem hl), h _ (List.getElem_mem hl)⟩
theorem eqv_bl (b : Bool) : PyData.eqv (Dt.bl b).py (Dt.bl b).py = true := by cases b <;> rfl
theorem nodict_non : ∃ n, tyN .non = some n ∧ kitB n "dict" = some false := ⟨"NoneType", rfl, by decide +kernel⟩
theorem nodict_bl (b : Bool) : ∃ n, tyN (.bl b) = some n ∧ kitB n "dict" = some false := ⟨"bool", rfl, by decide +kernel⟩
theorem nodict_int (i : Int) : ∃ n, tyN (.int i) = some n ∧ kitB n "dict" = some false := ⟨"int", rfl, by decide +kernel⟩
theorem nodict_str (x : Str) : ∃ n, tyN (.str x) = some n ∧ kitB n "dict" = some false := ⟨"str", rfl, by decide +kernel⟩
section
variable {T : Tbs} {X : Cx} {G : List Cell} {mu mu1 : List Dt} {e : Expr} {r : Res} {d : Dt} {p p2 pos : Pos}
theorem ev_isDict (h : EvD T X G mu e r mu1) (hm : X.mg "isinstance" = none) (hmx : X.mg "dict" = none) (hn : ∃ n, tyN d = some n ∧ kitB n "dict" = some false) (l : look G r = some d := by rfl) (hg : Gl X "isinstance" := by rfl) (hgx : Gl X "dict" := by rfl)
    (he : starEach [e, .Name "dict" p2] X.env = (false, eval e X.env) :: starEach [.Name "dict" p2] X.env := by rfl) (he2 : starEach [.Name "dict" p2] X.env = (false, eval (.Name "dict" p2) X.env) :: starEach [] X.env := by rfl) (hpl : (backTo pos (starEach [.Name "dict" p2] X.env)).any (·.1) = false := by rfl) :
    EvD T X G mu (.Call (.Name "isinstance" p) [e, .Name "dict" p2] [] pos) (.dat (.bl false)) mu1 := by
  obtain ⟨n, h1, h2⟩ := hn
  exact ev_isi h hm hmx PyProof.Rows.boot_dict h1 h2 l hg hgx (by decide) (by decide) he he2 hpl
end
section
variable {P : Program} {w : World} {K : PySem.W.Frag} {mg : Str → Option Value} {base : Heap} (c : Fc fa fn tf tl K mg base)
include c
theorem ok_law_alike : ∀ n, FnG P w K mg base (tabsOf tf tl K) (n + 1) "_law_alike" (S_alike n) := by
  intro n
  induction n with
  | zero =>
    refine fn_DD c d_law_alike (g_law_alike c) sc_law_alike bi_law_alike (fun ds mu o ⟨_, h, _⟩ => by rw [h]; rfl) fun A outer s H E hr ds mu o h => ?_
    obtain ⟨d, rfl, hd, rfl⟩ := h
    refine ⟨_, .ret, ?_⟩
    cases d with
    | non =>
      refine ss_cons (sif0 (et_val (ev_isTL (ev_val 1) (b_isinstance c) (b_tuple c) (b_list c)))) ?_
      refine ss_cons (sif0 (et_val (ev_isDict (ev_val 1) (b_isinstance c) (b_dict c) nodict_non))) ?_
      refine ss_stop (sifT (et_w (worT (et_isnon (ev_val 1)))) ?_)
      exact ss_one (sd_ret (andT (ev_eq hr.units (ev_val 0) (ev_val 1) (k := true) rfl rfl rfl) (ev_one (ev_eq hr.units (ev_isStr (ev_val 0) (b_isinstance c) (b_str c)) (ev_isStr (ev_val 1) (b_isinstance c) (b_str c)) (k := true) rfl rfl rfl))))
    | bl b =>
      refine ss_cons (sif0 (et_val (ev_isTL (ev_val 1) (b_isinstance c) (b_tuple c) (b_list c)))) ?_
      refine ss_cons (sif0 (et_val (ev_isDict (ev_val 1) (b_isinstance c) (b_dict c) (nodict_bl b)))) ?_
      refine ss_cons (sif0 (et_w (worF (et_isnon (ev_val 1)) (ew_or1 (et_val (ev_isStr (ev_val 1) (b_isinstance c) (b_str c))))))) ?_
      exact ss_one (sd_ret (andT (ev_isInt (ev_val 0) (b_isinstance c) (b_int c)) (andT (ev_eq hr.units (ev_isBool (ev_val 0) (b_isinstance c) (b_bool c)) (ev_isBool (ev_val 1) (b_isinstance c) (b_bool c)) (k := true) rfl rfl rfl) (ev_one (ev_eq hr.units (ev_val 0) (ev_val 1) (k := true) (eqv_bl b) rfl rfl)))))
    | int i =>
      refine ss_cons (sif0 (et_val (ev_isTL (ev_val 1) (b_isinstance c) (b_tuple c) (b_list c)))) ?_
      refine ss_cons (sif0 (et_val (ev_isDict (ev_val 1) (b_isinstance c) (b_dict c) (nodict_int i)))) ?_
      refine ss_cons (sif0 (et_w (worF (et_isnon (ev_val 1)) (ew_or1 (et_val (ev_isStr (ev_val 1) (b_isinstance c) (b_str c))))))) ?_
      exact ss_one (sd_ret (andT (ev_isInt (ev_val 0) (b_isinstance c) (b_int c)) (andT (ev_eq hr.units (ev_isBool (ev_val 0) (b_isinstance c) (b_bool c)) (ev_isBool (ev_val 1) (b_isinstance c) (b_bool c)) (k := true) rfl rfl rfl) (ev_one (asB (ev_eqI (ev_val 0) (ev_val 1)) (decide_eq_true rfl))))))
    | str x =>
      refine ss_cons (sif0 (et_val (ev_isTL (ev_val 1) (b_isinstance c) (b_tuple c) (b_list c)))) ?_
      refine ss_cons (sif0 (et_val (ev_isDict (ev_val 1) (b_isinstance c) (b_dict c) (nodict_str x)))) ?_
      refine ss_stop (sifT (et_w (worF (et_isnon (ev_val 1)) (ew_or1 (et_val (ev_isStr (ev_val 1) (b_isinstance c) (b_str c)))))) ?_)
      exact ss_one (sd_ret (andT (asB (ev_eqS (ev_val 0) (ev_val 1)) (decide_eq_true rfl)) (ev_one (ev_eq hr.units (ev_isStr (ev_val 0) (b_isinstance c) (b_str c)) (ev_isStr (ev_val 1) (b_isinstance c) (b_str c)) (k := true) rfl rfl rfl))))
    | _ => cases hd
  | succ n ih =>
    refine fn_DD c d_law_alike (g_law_alike c) sc_law_alike bi_law_alike (fun ds mu o ⟨_, h, _⟩ => by rw [h]; rfl) fun A outer s H E hr ds mu o h => ?_
    obtain ⟨d, rfl, hd, rfl⟩ := h
    refine ⟨_, .ret, ?_⟩
    cases d with
    | non =>
      refine ss_cons (sif0 (et_val (ev_isTL (ev_val 1) (b_isinstance c) (b_tuple c) (b_list c)))) ?_
      refine ss_cons (sif0 (et_val (ev_isDict (ev_val 1) (b_isinstance c) (b_dict c) nodict_non))) ?_
      refine ss_stop (sifT (et_w (worT (et_isnon (ev_val 1)))) ?_)
      exact ss_one (sd_ret (andT (ev_eq hr.units (ev_val 0) (ev_val 1) (k := true) rfl rfl rfl) (ev_one (ev_eq hr.units (ev_isStr (ev_val 0) (b_isinstance c) (b_str c)) (ev_isStr (ev_val 1) (b_isinstance c) (b_str c)) (k := true) rfl rfl rfl))))
    | bl b =>
      refine ss_cons (sif0 (et_val (ev_isTL (ev_val 1) (b_isinstance c) (b_tuple c) (b_list c)))) ?_
      refine ss_cons (sif0 (et_val (ev_isDict (ev_val 1) (b_isinstance c) (b_dict c) (nodict_bl b)))) ?_
      refine ss_cons (sif0 (et_w (worF (et_isnon (ev_val 1)) (ew_or1 (et_val (ev_isStr (ev_val 1) (b_isinstance c) (b_str c))))))) ?_
      exact ss_one (sd_ret (andT (ev_isInt (ev_val 0) (b_isinstance c) (b_int c)) (andT (ev_eq hr.units (ev_isBool (ev_val 0) (b_isinstance c) (b_bool c)) (ev_isBool (ev_val 1) (b_isinstance c) (b_bool c)) (k := true) rfl rfl rfl) (ev_one (ev_eq hr.units (ev_val 0) (ev_val 1) (k := true) (eqv_bl b) rfl rfl)))))
    | int i =>
      refine ss_cons (sif0 (et_val (ev_isTL (ev_val 1) (b_isinstance c) (b_tuple c) (b_list c)))) ?_
      refine ss_cons (sif0 (et_val (ev_isDict (ev_val 1) (b_isinstance c) (b_dict c) (nodict_int i)))) ?_
      refine ss_cons (sif0 (et_w (worF (et_isnon (ev_val 1)) (ew_or1 (et_val (ev_isStr (ev_val 1) (b_isinstance c) (b_str c))))))) ?_
      exact ss_one (sd_ret (andT (ev_isInt (ev_val 0) (b_isinstance c) (b_int c)) (andT (ev_eq hr.units (ev_isBool (ev_val 0) (b_isinstance c) (b_bool c)) (ev_isBool (ev_val 1) (b_isinstance c) (b_bool c)) (k := true) rfl rfl rfl) (ev_one (asB (ev_eqI (ev_val 0) (ev_val 1)) (decide_eq_true rfl))))))
    | str x =>
      refine ss_cons (sif0 (et_val (ev_isTL (ev_val 1) (b_isinstance c) (b_tuple c) (b_list c)))) ?_
      refine ss_cons (sif0 (et_val (ev_isDict (ev_val 1) (b_isinstance c) (b_dict c) (nodict_str x)))) ?_
      refine ss_stop (sifT (et_w (worF (et_isnon (ev_val 1)) (ew_or1 (et_val (ev_isStr (ev_val 1) (b_isinstance c) (b_str c)))))) ?_)
      exact ss_one (sd_ret (andT (asB (ev_eqS (ev_val 0) (ev_val 1)) (decide_eq_true rfl)) (ev_one (ev_eq hr.units (ev_isStr (ev_val 0) (b_isinstance c) (b_str c)) (ev_isStr (ev_val 1) (b_isinstance c) (b_str c)) (k := true) rfl rfl rfl))))
    | tup ds =>
      have hd : (decide (ds.length < 1000000) && ds.all (plainD n)) = true := hd
      rw [Bool.and_eq_true] at hd
      have h1 := of_decide_eq_true hd.1
      have h2 := List.all_eq_true.mp hd.2
      refine ss_stop (sifT (et_val (ev_isTL (ev_val 1) (b_isinstance c) (b_tuple c) (b_list c))) ?_)
      refine ss_cons (sif0 (et_w (worF (et_not (et_val (ev_isTL (ev_val 0) (b_isinstance c) (b_tuple c) (b_list c)))) (ew_or1 (et_ne hr.units (ev_isLst (ev_val 0) (b_isinstance c) (b_list c)) (ev_isLst (ev_val 1) (b_isinstance c) (b_list c)) (k := true) rfl rfl rfl))))) ?_
      refine ss_cons (sif0 (et_neI (ev_lenT (ev_val 0) (b_len c)) (ev_lenT (ev_val 1) (b_len c))) (by simp)) ?_
      refine ss_one (sd_ret (ev_eq hr.units (ev_comp (rs := []) (own := [("_law_k", 2)]) rfl sc_law_alike.nd (ei_as (ei_range1 (n := (ds.length : Nat)) (ev_lenT (ev_val 1) (b_len c)) (b_range c) (by omega) (by omega)) (by rw [Int.toNat_natCast, rngD_upTo])) (blkOk_by (by kernel_rfl)) (noown rfl) (none_left (n := ds.length) ▸ comp_filtA .int .int (l := upToN ds.length) (q := fun _ => false) fun x hx => ?_) (by simp)) (ev_lst ea_nil .nil) (k := true) rfl rfl rfl))
      obtain ⟨e, he, hp⟩ := upTo_get h2 hx
      exact ⟨_, _, fun s H C cl fp => eg_name sc_law_alike.nd 2, by decide, rfl, fun s H C cl fp => ets_one (et_not (k := true) (et_val (ev_call ih (hr.mono (by omega)) (ea_cons (ev_ixT (ev_val 0) (ev_val 2) he) (ea_cons (ev_ixT (ev_val 1) (ev_val 2) he) ea_nil)) (.dat (.dat .nil)) ⟨e, rfl, hp, rfl⟩))), fun hq => absurd hq (by decide)⟩
    | lst ds =>
      have hd : (decide (ds.length < 1000000) && ds.all (plainD n)) = true := hd
      rw [Bool.and_eq_true] at hd
      have h1 := of_decide_eq_true hd.1
      have h2 := List.all_eq_true.mp hd.2
      refine ss_stop (sifT (et_val (ev_isTL (ev_val 1) (b_isinstance c) (b_tuple c) (b_list c))) ?_)
      refine ss_cons (sif0 (et_w (worF (et_not (et_val (ev_isTL (ev_val 0) (b_isinstance c) (b_tuple c) (b_list c)))) (ew_or1 (et_ne hr.units (ev_isLst (ev_val 0) (b_isinstance c) (b_list c)) (ev_isLst (ev_val 1) (b_isinstance c) (b_list c)) (k := true) rfl rfl rfl))))) ?_
      refine ss_cons (sif0 (et_neI (ev_lenL (ev_val 0) (b_len c)) (ev_lenL (ev_val 1) (b_len c))) (by simp)) ?_
      refine ss_one (sd_ret (ev_eq hr.units (ev_comp (rs := []) (own := [("_law_k", 2)]) rfl sc_law_alike.nd (ei_as (ei_range1 (n := (ds.length : Nat)) (ev_lenL (ev_val 1) (b_len c)) (b_range c) (by omega) (by omega)) (by rw [Int.toNat_natCast, rngD_upTo])) (blkOk_by (by kernel_rfl)) (noown rfl) (none_left (n := ds.length) ▸ comp_filtA .int .int (l := upToN ds.length) (q := fun _ => false) fun x hx => ?_) (by simp)) (ev_lst ea_nil .nil) (k := true) rfl rfl rfl))
      obtain ⟨e, he, hp⟩ := upTo_get h2 hx
      exact ⟨_, _, fun s H C cl fp => eg_name sc_law_alike.nd 2, by decide, rfl, fun s H C cl fp => ets_one (et_not (k := true) (et_val (ev_call ih (hr.mono (by omega)) (ea_cons (ev_ixL (ev_val 0) (ev_val 2) he) (ea_cons (ev_ixL (ev_val 1) (ev_val 2) he) ea_nil)) (.dat (.dat .nil)) ⟨e, rfl, hp, rfl⟩))), fun hq => absurd hq (by decide)⟩
    | _ => cases hd
end
end K63

set_option Elab.async false
set_option linter.all false
set_option maxRecDepth 100000
set_option maxHeartbeats 4000000
namespace K63
open PySem PySem.Spec PyProof.Rows L2 Dl
def tE (e : En PSt) : Dt := .tup [dInts e.1, dOT e.2.1, dOT e.2.2]
def dSeen (S : List PSt) : Dt := dicN tK (S.map fun k => (k, .bl true))
theorem sset_le : ∀ l : List Int, (ssetI l).length ≤ l.length := fun l => nodup_sub _ l ((ssetI_ord l).imp fun h => by omega) fun x hx => mem_ssetI.mp hx
theorem beh_len {r : Reel} (g : GoodN r.1) {gap : Option Int} {o : Option (List Int)} (h : GoodO r.1 o) : (behS r gap o).length ≤ 6 := by
  have h1 := (mayBe_ok g gap h).len g
  have := sset_le ((mayBe r.1 gap o).map (pic r.2))
  rw [List.length_map] at this
  unfold behS
  omega
theorem dep_OT (n : Nat) (o : Option (List Int)) : (dOT o).dep (n + 1) = true := by
  cases o with
  | none => rfl
  | some l => exact dep_intsT n l
theorem eqv_dead (o : Option (List Int)) : PyData.eqv (dOT o).py (Dt.tup []).py = dead o := by
  cases o with
  | none => rfl
  | some l => cases l <;> rfl
theorem eqv_bb (a b : Bool) : PyData.eqv (Dt.bl a).py (Dt.bl b).py = decide (a = b) := by cases a <;> cases b <;> rfl
def S_behE : FSpec := fun ds mu o => ∃ r : Reel, ∃ gap here, ds = [dR r, dGap gap, dOT here] ∧ GoodR r.1 r.2 ∧ GoodG gap ∧ GoodO r.1 here ∧ o = .ret (.dat (.lst ((behS r gap here).map .int))) mu
/-- what the loops keep -/
structure SI (one other : Reel) (a : List (En PSt) × List PSt) : Prop where
  le : a.1.length ≤ a.2.length
  nd : a.2.Nodup
  ok : ∀ k ∈ a.2, GoodK one other k
theorem SI.len {one other : Reel} {a : List (En PSt) × List PSt} (h : SI one other a) (g1 : GoodN one.1) (g2 : GoodN other.1) : a.2.length ≤ 4225 :=
  Nat.le_trans (nodup_sub _ (univK one other) h.nd fun k hk => univK_mem (h.ok k hk)) (univK_len g1 g2)
theorem SI.step {one other : Reel} {half : Bool} {keep : PSt → Bool} {a : List (En PSt) × List PSt} (h : SI one other a) {c : En PSt} (hc : GoodK one other c.2) (hn : (bC (badK half) keep a c).2 = none) : SI one other (bC (badK half) keep a c).1 := by
  unfold bC at hn ⊢
  split at hn
  · cases hn
  · rename_i hb
    rw [if_neg hb]
    split
    · rename_i hk
      refine ⟨?_, List.nodup_append.mpr ⟨h.nd, by simp, fun x hx y hy e => hk.2 (by rw [List.mem_singleton.mp hy] at e; rw [← e]; exact hx)⟩, fun k hk' => ?_⟩
      · show (a.1 ++ [c]).length ≤ (a.2 ++ [c.2]).length
        rw [List.length_append, List.length_append]
        have := h.le
        show a.1.length + 1 ≤ a.2.length + 1
        omega
      · rcases List.mem_append.mp hk' with z | z
        · exact h.ok k z
        · rw [List.mem_singleton.mp z]
          exact hc
    · exact h
theorem SI.run {one other : Reel} {half : Bool} {keep : PSt → Bool} : ∀ {C : List (En PSt)} {a : List (En PSt) × List PSt}, SI one other a → (∀ c ∈ C, GoodK one other c.2) → (runX (bC (badK half) keep) C a).2 = none → SI one other (runX (bC (badK half) keep) C a).1
  | [], a, h, _, _ => h
  | c :: C, a, h, hc, hn => by
    cases e : (bC (badK half) keep a c).2 with
    | some z =>
      rw [runX_yes e] at hn
      cases hn
    | none =>
      rw [runX_no e] at hn ⊢
      exact SI.run (h.step (hc c List.mem_cons_self) e) (fun d hd => hc d (List.mem_cons_of_mem _ hd)) hn
section
variable {P : Program} {w : World} {K : PySem.W.Frag} {mg : Str → Option Value} {base : Heap} (c : Fc fa fn tf tl K mg base)
/-- a lambda that tells whether two lots are bad -/
def Tells (P : Program) (w : World) (K : PySem.W.Frag) (mg : Str → Option Value) (base : Heap) (T : Tbs) (half : Bool) (A : AbsO) : Prop :=
  ∃ (q : Str) (params : Arguments) (body : Expr) (scope : Scope) (N ps : List Str), A = lamA q params body scope ∧ FnScope N ps scope ∧ ps.length = 2 ∧ (∀ pm cv ct us, us.length = ps.length → bindArgs (PySem.W.kla_fn "<lambda>" q params body scope [] pm cv ct) ⟨us, []⟩ = pure (ps.zip us)) ∧
    ∀ (Ar : Around) (outer : List Env) (s : Shared) (H : Hp) (f c : Addr) (mu : List Dt) (a b : List Int), Room 1 (Ar.deeper (envOfC q scope s.heap.objs.size f (.ref c))) → EvD T (cxD P w K mg base N q scope f (.ref c) Ar outer s H E0) (start0 N.length [dInts a, dInts b]) mu body (.dat (.bl (badK half (some a, some b)))) mu
def S_fp (P : Program) (w : World) (K : PySem.W.Frag) (mg : Str → Option Value) (base : Heap) (T : Tbs) : FSpec := fun ds mu o => ∃ one other : Reel, ∃ gap half A, ds = [dR one, dR other, dGap gap, .abs A] ∧ GoodR one.1 one.2 ∧ GoodR other.1 other.2 ∧ GoodG gap ∧ Tells P w K mg base T half A ∧ o = .ret (.dat (dOT (partP half one other gap))) mu
def S_two (res : Reel → Reel → Option Int → Dt) : FSpec := fun ds mu o => ∃ one other : Reel, ∃ gap, ds = [dR one, dR other, dGap gap] ∧ GoodR one.1 one.2 ∧ GoodR other.1 other.2 ∧ GoodG gap ∧ o = .ret (.dat (res one other gap)) mu
def leastS (one other : Reel) : Dt := match (upToN 21).find? fun g => (partP false one other (some g)).isNone with
  | some g => .int g
  | none => .non
def S_least : FSpec := fun ds mu o => ∃ one other : Reel, ds = [dR one, dR other] ∧ GoodR one.1 one.2 ∧ GoodR other.1 other.2 ∧ o = .ret (.dat (leastS one other)) mu
include c
theorem ok_behind : FnG P w K mg base (tabsOf tf tl K) 4 "pictures_behind" S_behE := by
  refine fn_DD c d_pictures_behind (g_pictures_behind c) sc_pictures_behind bi_pictures_behind (fun ds mu o ⟨_, _, _, h, _⟩ => by rw [h]; rfl) fun A outer s H E hr ds mu o h => ?_
  obtain ⟨r, gap, here, rfl, g, gg, gh, rfl⟩ := h
  refine ⟨_, .ret, ?_⟩
  have k := mayBe_ok g.n gap gh
  have h1 := k.len g.n
  cases e : dead here with
  | true =>
    have z := dead_iff.mp e
    subst z
    exact ss_one (sd_ret (ev_give (ifxF (et_ne hr.units (ev_val 2) (ev_tup ea_nil .nil) (k := true) rfl rfl rfl) (ev_lst (ds := []) ea_nil .nil (by decide)))))
  | false =>
    refine ss_one (sd_ret (ev_give (ifxT (et_ne hr.units (ev_val 2) (ev_tup ea_nil .nil) (k := false) ((eqv_dead here).trans e) (dep_OT 59 here) rfl) (ev_sortset (ns := (mayBe r.1 gap here).map (pic r.2)) rfl (ev_comp (own := [("state", 3)]) rfl sc_pictures_behind.nd (ei_list (ev_call (ok_may_beT c) hr (ea_cons (ev_val 0) (ea_cons (ev_val 1) (ea_cons (ev_val 2) ea_nil))) (.dat (.dat (.dat .nil))) ⟨r.1, r.2, gap, here, rfl, g.n, gg, gh, rfl⟩)) (blkOk_by (by kernel_rfl)) (noown rfl)
      (comp_allA .int (fun s => .int (pic r.2 s)) fun y hy => ⟨_, _, fun s H C cl fp => eg_name sc_pictures_behind.nd 3, by decide, rfl, fun s H C cl fp => ev_ixT (ev_ixT (ev_val 0) ev_int rfl) (ev_val 3) (at_pics g (k.rg y hy))⟩) ?l1) (b_sorted c) (b_set c) ?l2 ?l3))))
    case l1 =>
      rw [List.length_map]
      omega
    case l2 =>
      rw [List.length_map]
      omega
    case l3 =>
      show some (Dt.lst _) = some (Dt.lst _)
      rw [List.map_map] <;> rfl
theorem ok_first_parting : FnG P w K mg base (tabsOf tf tl K) 6 "first_parting" (S_fp P w K mg base (tabsOf tf tl K)) := by
  refine fn_DD c d_first_parting (g_first_parting c) sc_first_parting bi_first_parting (fun ds mu o ⟨_, _, _, _, _, h, _⟩ => by rw [h]; rfl) fun A outer s H E hr ds mu o h => ?_
  obtain ⟨one, other, gap, half, lam, rfl, g1, g2, gg, ht, rfl⟩ := h
  refine ⟨_, .ret, ?_⟩
  obtain ⟨q, params, body, scope, N, ps, rfl, Sc, hps, hbn, hbody⟩ := ht
  have hu : (cxF P w K mg base n_first_parting "first_parting" s_first_parting A outer s H E).A.units + 9 < cLine := by
    have := hr.units
    omega
  have ul := univK_len g1.n g2.n
  refine ss_cons (sd_parN rfl sc_first_parting.nd 4 5 (d1 := .lst (([([], k0)] : List (En PSt)).map tE)) (m2 := dSeen []) (ev_give (ev_lst (ds := [tE ([], k0)]) (ea_cons (ev_tup (ds := [.tup [], .non, .non]) (ea_cons (ev_tup ea_nil .nil) (ea_cons ev_non (ea_cons ev_non ea_nil))) (.dat (.dat (.dat .nil))) (by simp)) ea_nil) (.dat .nil) (by simp))) (ev_dictN ktK)) ?_
  refine ss_bfs (passes_of rfl) (pics := picsK one other gap) (nx := nxK one other gap) (bad := badK half) (keep := fun _ => true)
    (fun L S => [.val (dR one), .val (dR other), .val (dGap gap), .val (.abs (lamA q params body scope)), .val (.lst (L.map tE)), .own (dSeen S), .no, .no, .no, .no, .no, .no, .no, .no]) [.val (dR one), .val (dR other), .val (dGap gap), .no, .no, .no, .no, .no, .no, .no, .no, .no, .no, .no] (fun f => dOT (some f)) (P := GoodK one other) (k0 := k0) (U := univK one other)
    (fun k p h => h.next g1.n g2.n p) (fun k _ => ssetI_ord _) (fun k p h _ hb => c1_prog hb) (fun _ _ _ _ _ _ _ => rfl) (fun k h => univK_mem h) fuelK (by show _ ≤ 4300; omega) (.start one other)
    (fun L S => et_tru (d := .lst (L.map tE)) (ev_val 4) rfl (by show some (!(L.map tE).isEmpty) = _; cases L <;> rfl)) (fun L S => by repeat (first | exact Wk.nil | refine Wk.same ?_ | refine Wk.no ?_)) (fun n L S b hn => ?body) (fun f hf => ?found) (fun hf => ?none)
  case found =>
    show _ = SOut.ret (.dat (dOT (some f))) mu
    rw [← hf] <;> rfl
  case none =>
    have : partP half one other gap = none := hf
    rw [this]
    exact ss_one (sd_ret ev_non)
  case body =>
    have Sl : S.length ≤ 4225 := Nat.le_trans (nodup_sub _ (univK one other) b.nd fun k hk => univK_mem (b.old k hk).1) ul
    have s0 : SI one other (([], S) : List (En PSt) × List PSt) := ⟨Nat.zero_le _, b.nd, fun k hk => (b.old k hk).1⟩
    have flat : runX (fun a e => runX (fun a p => bC (badK half) (fun _ => true) a (e.1 ++ [p], nxK one other gap e.2 p)) (picsK one other gap e.2) a) L ([], S) = runX (bC (badK half) fun _ => true) (cands (picsK one other gap) (nxK one other gap) L) ([], S) := by
      unfold cands
      rw [runX_flat]
      congr 1
      funext a e
      rw [runX_map]
    have rx := runX_bC (badK half) (fun _ => true) (cands (picsK one other gap) (nxK one other gap) L) ([], S)
    refine ⟨[.val (dR one), .val (dR other), .val (dGap gap), .val (.abs (lamA q params body scope)), .val (.lst ((newC (fun _ => true) S (cands (picsK one other gap) (nxK one other gap) L)).map tE)), .own (dSeen (S ++ (newC (fun _ => true) S (cands (picsK one other gap) (nxK one other gap) L)).map (·.2))), .no, .no, .no, .no, .no, .no, .no, .no], ?bd, fun _ => Wk.refl _⟩
    refine ss_cons (sd_setN sc_first_parting.nd 6 (ev_lst (ds := []) ea_nil .nil (by decide))) ?_
    refine ss_forX (passes_of rfl) rfl (fun a : List (En PSt) × List PSt => [.val (dR one), .val (dR other), .val (dGap gap), .val (.abs (lamA q params body scope)), .val (.lst (L.map tE)), .own (dSeen a.2), .own (.lst (a.1.map tE)), .no, .no, .no, .no, .no, .no, .no]) tE
      (fun a e => runX (fun a p => bC (badK half) (fun _ => true) a (e.1 ++ [p], nxK one other gap e.2 p)) (picsK one other gap e.2) a) (fun f => dOT (some f)) (SI one other) L ([], S) ?wk0 (ei_list (ev_val 4)) s0 (fun a e ha he => ?ent) (fun d hd => ?stop) (fun hd => ?go)
    case wk0 => repeat (first | exact Wk.nil | refine Wk.same ?_ | refine Wk.no ?_)
    case stop =>
      rw [flat] at hd
      cases hf : (cands (picsK one other gap) (nxK one other gap) L).find? (fun c => badK half c.2) with
      | some c =>
        rw [hf] at rx
        have rx : _ = some c.1 := rx
        rw [rx] at hd
        rw [← Option.some.inj hd]
      | none =>
        rw [hf] at rx
        have rx : _ = ((_, _), none) := rx
        rw [rx] at hd
        cases hd
    case go =>
      rw [flat] at hd ⊢
      cases hf : (cands (picsK one other gap) (nxK one other gap) L).find? (fun c => badK half c.2) with
      | some c =>
        rw [hf] at rx
        have rx : _ = some c.1 := rx
        rw [rx] at hd
        cases hd
      | none =>
        rw [hf] at rx
        have rx : _ = ((_, _), none) := rx
        rw [rx]
        refine ss_giveUp 6 rfl (ss_weak (ss_one (sd_set sc_first_parting.nd 4 (ev_val 6))) ?wkg)
        case wkg => repeat (first | exact Wk.nil | refine Wk.same ?_ | refine Wk.no ?_)
    case ent =>
      obtain ⟨e1, e2, gk⟩ := b.at_ e he
      have nl : e.1.length ≤ 4225 := by omega
      have gnx : ∀ p, GoodK one other (nxK one other gap e.2 p) := fun p => gk.next g1.n g2.n p
      refine ⟨fun hz => ?inv, _, _, [.val (dR one), .val (dR other), .val (dGap gap), .val (.abs (lamA q params body scope)), .val (.lst (L.map tE)), .own (dSeen (runX (fun a p => bC (badK half) (fun _ => true) a (e.1 ++ [p], nxK one other gap e.2 p)) (picsK one other gap e.2) a).1.2), .own (.lst ((runX (fun a p => bC (badK half) (fun _ => true) a (e.1 ++ [p], nxK one other gap e.2 p)) (picsK one other gap e.2) a).1.1.map tE)), .no, .no, .no, .no, .no, .no, .no], eg_tup rfl (egs_cons (eg_name sc_first_parting.nd 7) (egs_cons (eg_name sc_first_parting.nd 8) (egs_cons (eg_name sc_first_parting.nd 9) egs_nil))), ?stm, Wk.refl _⟩
      case inv =>
        have := SI.run (half := half) (keep := fun _ => true) (C := (picsK one other gap e.2).map fun p => (e.1 ++ [p], nxK one other gap e.2 p)) ha (fun c hc => by
          obtain ⟨p, _, rfl⟩ := List.mem_map.mp hc
          exact gnx p)
        rw [runX_map] at this
        exact this hz
      case stm =>
        have p1 := beh_len g1.n (gap := gap) gk.a
        have p2 := beh_len g2.n (gap := gap) gk.b
        refine ss_cons (G1 := [.val (dR one), .val (dR other), .val (dGap gap), .val (.abs (lamA q params body scope)), .val (.lst (L.map tE)), .own (dSeen a.2), .own (.lst (a.1.map tE)), .val (dInts e.1), .val (dOT e.2.1), .val (dOT e.2.2), .val (.lst ((picsK one other gap e.2).map .int)), .no, .no, .no]) (mu1 := mu) (sd_set (d := .lst ((picsK one other gap e.2).map .int)) sc_first_parting.nd 10 (ev_give (ev_sortset (ns := behS one gap e.2.1 ++ behS other gap e.2.2) rfl (ev_addL (x := (behS one gap e.2.1).map .int) (y := (behS other gap e.2.2).map .int) (ev_call (ok_behind c) (hr.mono (by decide)) (ea_cons (ev_val 0) (ea_cons (ev_val 2) (ea_cons (ev_val 8) ea_nil))) (.dat (.dat (.dat .nil))) ⟨one, gap, e.2.1, rfl, g1, gg, gk.a, rfl⟩) (ev_call (ok_behind c) (hr.mono (by decide)) (ea_cons (ev_val 1) (ea_cons (ev_val 2) (ea_cons (ev_val 9) ea_nil))) (.dat (.dat (.dat .nil))) ⟨other, gap, e.2.2, rfl, g2, gg, gk.b, rfl⟩) ?z1) (b_sorted c) (b_set c) ?z2 ?z3))) ?_
        case z1 =>
          rw [List.length_map, List.length_map, sizeLine_eq]
          omega
        case z2 =>
          rw [List.length_append]
          omega
        case z3 =>
          rw [List.map_append] <;> rfl
        refine ss_forX (passes_of rfl) rfl (fun a : List (En PSt) × List PSt => [.val (dR one), .val (dR other), .val (dGap gap), .val (.abs (lamA q params body scope)), .val (.lst (L.map tE)), .own (dSeen a.2), .own (.lst (a.1.map tE)), .val (dInts e.1), .val (dOT e.2.1), .val (dOT e.2.2), .val (.lst ((picsK one other gap e.2).map .int)), .no, .no, .no]) Dt.int
          (fun a p => bC (badK half) (fun _ => true) a (e.1 ++ [p], nxK one other gap e.2 p)) (fun f => dOT (some f)) (SI one other) (picsK one other gap e.2) a (Wk.refl _) (ei_list (ev_val 10)) ha (fun a2 p ha2 hp => ?pict) (fun d hd => ?stop2) (fun hd => ?go2)
        case stop2 => rw [hd]
        case go2 =>
          rw [hd]
          refine ss_weak ss_nil ?wk3
          case wk3 => repeat (first | exact Wk.nil | refine Wk.same ?_ | refine Wk.no ?_)
        case pict =>
          have al := ha2.len g1.n g2.n
          have al1 := ha2.le
          obtain ⟨lf, hlf⟩ : ∃ lf, lf = seeS one.1 one.2 gap e.2.1 p := ⟨_, rfl⟩
          obtain ⟨rt, hrt⟩ : ∃ rt, rt = seeS other.1 other.2 gap e.2.2 p := ⟨_, rfl⟩
          have en : nxK one other gap e.2 p = (some lf, some rt) := by rw [hlf, hrt] <;> rfl
          have gn := gnx p
          refine ⟨fun hz => ha2.step (c := (e.1 ++ [p], nxK one other gap e.2 p)) gn hz, _, _, [.val (dR one), .val (dR other), .val (dGap gap), .val (.abs (lamA q params body scope)), .val (.lst (L.map tE)), .own (dSeen (bC (badK half) (fun _ => true) a2 (e.1 ++ [p], nxK one other gap e.2 p)).1.2), .own (.lst ((bC (badK half) (fun _ => true) a2 (e.1 ++ [p], nxK one other gap e.2 p)).1.1.map tE)), .val (dInts e.1), .val (dOT e.2.1), .val (dOT e.2.2), .val (.lst ((picsK one other gap e.2).map .int)), .no, .no, .no], eg_name sc_first_parting.nd 11, ?pst, Wk.refl _⟩
          refine ss_cons (mu1 := mu) (sd_set (d := dInts lf) sc_first_parting.nd 12 ?left) ?_
          case left =>
            cases z : dead e.2.1 with
            | true =>
              have y : lf = [] := by rw [hlf, dead_iff.mp z] <;> rfl
              rw [y]
              exact ifxF (et_ne hr.units (ev_val 8) (ev_tup ea_nil .nil) (k := true) ((eqv_dead e.2.1).trans z) (dep_OT 59 _) rfl) (ev_tup ea_nil .nil)
            | false => exact ifxT (et_ne hr.units (ev_val 8) (ev_tup ea_nil .nil) (k := false) ((eqv_dead e.2.1).trans z) (dep_OT 59 _) rfl) (asD (ev_call (ok_moved c) (hr.mono (by decide)) (ea_cons (ev_val 0) (ea_cons (ev_val 2) (ea_cons (ev_val 8) (ea_cons (ev_val 11) ea_nil)))) (.dat (.dat (.dat (.dat .nil)))) ⟨one, gap, e.2.1, p, rfl, g1, gg, gk.a, rfl⟩) (by rw [hlf]))
          refine ss_cons (mu1 := mu) (sd_set (d := dInts rt) sc_first_parting.nd 13 ?right) ?_
          case right =>
            cases z : dead e.2.2 with
            | true =>
              have y : rt = [] := by rw [hrt, dead_iff.mp z] <;> rfl
              rw [y]
              exact ifxF (et_ne hr.units (ev_val 9) (ev_tup ea_nil .nil) (k := true) ((eqv_dead e.2.2).trans z) (dep_OT 59 _) rfl) (ev_tup ea_nil .nil)
            | false => exact ifxT (et_ne hr.units (ev_val 9) (ev_tup ea_nil .nil) (k := false) ((eqv_dead e.2.2).trans z) (dep_OT 59 _) rfl) (asD (ev_call (ok_moved c) (hr.mono (by decide)) (ea_cons (ev_val 1) (ea_cons (ev_val 2) (ea_cons (ev_val 9) (ea_cons (ev_val 11) ea_nil)))) (.dat (.dat (.dat (.dat .nil)))) ⟨other, gap, e.2.2, p, rfl, g2, gg, gk.b, rfl⟩) (by rw [hrt]))
          cases hb : badK half (some lf, some rt) with
          | true =>
            have eb : bC (badK half) (fun _ => true) a2 (e.1 ++ [p], nxK one other gap e.2 p) = (a2, some (e.1 ++ [p])) := by
              unfold bC
              rw [en, if_pos hb]
            rw [eb]
            refine ss_stop (sifT (et_val (asB (ev_callLam 3 rfl hr (ea_cons (ev_val 12) (ea_cons (ev_val 13) ea_nil)) (.dat (.dat .nil)) Sc hps.symm hbn (fun Ar outer s H f cc hr2 => hbody Ar outer s H f cc mu lf rt (hr2.mono (by decide)))) hb)) (ss_one (sd_ret (asD (ev_addT (x := e.1.map .int) (y := [.int p]) (ev_val 7) (ev_tup (ds := [.int p]) (ea_cons (ev_val 11) ea_nil) (.dat .nil) (by simp)) ?fz) ?fe))))
            case fz =>
              rw [List.length_map, sizeLine_eq]
              show e.1.length + 1 ≤ _
              omega
            case fe =>
              show Dt.tup _ = dInts (e.1 ++ [p])
              unfold dInts
              rw [List.map_append] <;> rfl
          | false =>
            have hbn' : ¬ badK half (some lf, some rt) = true := by rw [hb]; decide
            refine ss_cons (sif0 (et_val (asB (ev_callLam 3 rfl hr (ea_cons (ev_val 12) (ea_cons (ev_val 13) ea_nil)) (.dat (.dat .nil)) Sc hps.symm hbn (fun Ar outer s H f cc hr2 => hbody Ar outer s H f cc mu lf rt (hr2.mono (by decide)))) hb))) ?_
            by_cases hs : (some lf, some rt) ∈ a2.2
            · have eb : bC (badK half) (fun _ => true) a2 (e.1 ++ [p], nxK one other gap e.2 p) = (a2, none) := by
                unfold bC
                rw [en, if_neg hbn', if_neg fun z => z.2 hs]
              rw [eb]
              refine ss_weak (G1 := _) (ss_one (sif0 (et_nnotin ktK (k := (some lf, some rt)) (kvs := a2.2.map fun k => (k, .bl true)) hu (asD (ev_tup (ds := [dInts lf, dInts rt]) (ea_cons (ev_val 12) (ea_cons (ev_val 13) ea_nil)) (.dat (.dat .nil)) (by simp)) rfl) (ev_own 5)) (by rw [getA_iff.mpr hs] <;> rfl))) ?wk1
              case wk1 => repeat (first | exact Wk.nil | refine Wk.same ?_ | refine Wk.no ?_)
            · have eb : bC (badK half) (fun _ => true) a2 (e.1 ++ [p], nxK one other gap e.2 p) = ((a2.1 ++ [(e.1 ++ [p], (some lf, some rt))], a2.2 ++ [(some lf, some rt)]), none) := by
                unfold bC
                rw [en, if_neg hbn', if_pos ⟨rfl, hs⟩]
              rw [eb]
              refine ss_weak (G1 := _) (ss_one (sifT (et_nnotin ktK (k := (some lf, some rt)) (kvs := a2.2.map fun k => (k, .bl true)) hu (asD (ev_tup (ds := [dInts lf, dInts rt]) (ea_cons (ev_val 12) (ea_cons (ev_val 13) ea_nil)) (.dat (.dat .nil)) (by simp)) rfl) (ev_own 5)) (ss_cons (sd_nput ktK (kvs := a2.2.map fun k => (k, .bl true)) (k := (some lf, some rt)) (d := .bl true) 5 hu ev_bl (ev_own 5) (asD (ev_tup (ds := [dInts lf, dInts rt]) (ea_cons (ev_val 12) (ea_cons (ev_val 13) ea_nil)) (.dat (.dat .nil)) (by simp)) rfl) rfl ?kl)
                (ss_one (sd_append (ds := a2.1.map tE) (d := tE (e.1 ++ [p], (some lf, some rt))) 6 (ev_own 6) (asD (ev_tup (ds := [dInts (e.1 ++ [p]), dInts lf, dInts rt]) (ea_cons (asD (ev_addT (x := e.1.map .int) (y := [.int p]) (ev_val 7) (ev_tup (ds := [.int p]) (ea_cons (ev_val 11) ea_nil) (.dat .nil) (by simp)) ?fz2) ?fe2) (ea_cons (ev_val 12) (ea_cons (ev_val 13) ea_nil))) (.dat (.dat (.dat .nil))) (by simp)) rfl) ?al))) (by rw [getA_out hs] <;> rfl))) ?wk2
              case kl =>
                rw [List.length_map]
                omega
              case al =>
                rw [List.length_map]
                omega
              case fz2 =>
                rw [List.length_map, sizeLine_eq]
                show e.1.length + 1 ≤ _
                omega
              case fe2 =>
                show Dt.tup _ = dInts (e.1 ++ [p])
                unfold dInts
                rw [List.map_append] <;> rfl
              case wk2 =>
                rw [putA_new _ _ _ (getA_out hs)]
                have x1 : dSeen (a2.2 ++ [(some lf, some rt)]) = dicN tK ((a2.2.map fun k => (k, Dt.bl true)) ++ [((some lf, some rt), .bl true)]) := by
                  unfold dSeen
                  rw [List.map_append] <;> rfl
                have x2 : (a2.1 ++ [(e.1 ++ [p], ((some lf, some rt) : PSt))]).map tE = a2.1.map tE ++ [tE (e.1 ++ [p], (some lf, some rt))] := by
                  rw [List.map_append] <;> rfl
                rw [x1, x2]
                repeat (first | exact Wk.nil | refine Wk.same ?_ | refine Wk.no ?_)
end
end K63

set_option Elab.async false
set_option linter.all false
set_option maxRecDepth 100000
set_option maxHeartbeats 4000000
namespace K63
open PySem PySem.Spec PyProof.Rows L2 Dl
theorem isNon_OT (o : Option (List Int)) : (dOT o).isNon = o.isNone := by cases o <;> rfl
theorem obj_OT (o : Option (List Int)) : ∀ z, dOT o ≠ .obj z := fun z h => by cases o <;> cases h
theorem bad_half (a b : List Int) : badK true (some a, some b) = (a.isEmpty && !b.isEmpty) := by
  unfold badK
  rw [dead_some, dead_some]
  cases a <;> cases b <;> rfl
theorem bad_both (a b : List Int) : badK false (some a, some b) = (!decide (a.isEmpty = b.isEmpty)) := by
  unfold badK
  rw [dead_some, dead_some]
  cases a <;> cases b <;> rfl
theorem eqv_nilI (l : List Int) : PyData.eqv (dInts l).py (Dt.tup []).py = l.isEmpty := by cases l <;> rfl
def partR (one other : Reel) (gap : Option Int) : Dt := dOT (partP false one other gap)
section
variable {P : Program} {w : World} {K : PySem.W.Frag} {mg : Str → Option Value} {base : Heap} (c : Fc fa fn tf tl K mg base)
include c
theorem ok_parting_of : FnG P w K mg base (tabsOf tf tl K) 7 "parting_of" (S_two partR) := by
  refine fn_DD c d_parting_of (g_parting_of c) sc_parting_of bi_parting_of (fun ds mu o ⟨_, _, _, h, _⟩ => by rw [h]; rfl) fun A outer s H E hr ds mu o h => ?_
  obtain ⟨one, other, gap, rfl, g1, g2, gg, rfl⟩ := h
  refine ⟨_, .ret, ?_⟩
  refine ss_one (sd_ret (ev_call (ok_first_parting c) hr (ea_cons (ev_val 0) (ea_cons (ev_val 1) (ea_cons (ev_val 2) (ea_cons (ev_lam (t_parting_of c).1 (t_parting_of c).2 rfl rfl) ea_nil)))) (.dat (.dat (.dat (.dat .nil))))
    ⟨one, other, gap, false, _, rfl, g1, g2, gg, ⟨_, _, _, _, ["left", "right"], ["left", "right"], rfl, ⟨rfl, rfl, rfl, by decide +kernel, rfl, by decide +kernel, by decide +kernel⟩, rfl, (fun pm cv ct us hl => match us, hl with | [_, _], _ => rfl), fun Ar outer s H f cc mu a b hr2 => ?lam⟩, rfl⟩))
  case lam =>
    rw [bad_both]
    exact ev_ne hr2.units (d1 := .bl a.isEmpty) (d2 := .bl b.isEmpty) (ev_eq hr2.units (d1 := dInts a) (d2 := .tup []) (ev_val 0) (ev_tup ea_nil .nil) (eqv_nilI a) (dep_intsT 59 a) rfl) (ev_eq hr2.units (d1 := dInts b) (d2 := .tup []) (ev_val 1) (ev_tup ea_nil .nil) (eqv_nilI b) (dep_intsT 59 b) rfl) (eqv_bb _ _) rfl rfl
theorem ok_are_same : FnG P w K mg base (tabsOf tf tl K) 8 "are_same" (S_two fun one other gap => .bl (partP false one other gap).isNone) := by
  refine fn_DD c d_are_same (g_are_same c) sc_are_same bi_are_same (fun ds mu o ⟨_, _, _, h, _⟩ => by rw [h]; rfl) fun A outer s H E hr ds mu o h => ?_
  obtain ⟨one, other, gap, rfl, g1, g2, gg, rfl⟩ := h
  refine ⟨_, .ret, ?_⟩
  refine ss_cons (sd_expr (ev_call (ok_need_two c) (hr.mono (by decide)) (ea_cons (ev_val 0) (ea_cons (ev_val 1) (ea_cons (ev_val 2) ea_nil))) (.dat (.dat (.dat .nil))) ⟨one, other, gap, rfl, g1, g2, gg, rfl⟩)) ?_
  exact ss_one (sd_ret (asB (ev_isnon (ev_call (ok_parting_of c) hr (ea_cons (ev_val 0) (ea_cons (ev_val 1) (ea_cons (ev_val 2) ea_nil))) (.dat (.dat (.dat .nil))) ⟨one, other, gap, rfl, g1, g2, gg, rfl⟩) rfl (obj_OT _)) (isNon_OT _)))
end
end K63

set_option Elab.async false
set_option linter.all false
set_option maxRecDepth 100000
set_option maxHeartbeats 4000000
namespace K63
open PySem PySem.Spec PyProof.Rows L2 Dl
/-! ### chains of states -/
def Ch (A : Int → Int → Prop) (ps : List Int) : Int → List Int → Prop
  | _, [] => True
  | x, p :: f => ∃ y, A x y ∧ pic ps y = p ∧ Ch A ps y f
theorem Ch.mono {A A' : Int → Int → Prop} {ps : List Int} (h : ∀ x y, A x y → A' x y) : ∀ {f : List Int} {x : Int}, Ch A ps x f → Ch A' ps x f
  | [], _, _ => trivial
  | _ :: _, _, ⟨y, a, b, c⟩ => ⟨y, h _ _ a, b, Ch.mono h c⟩
def canR (r : Reel) (gap : Option Int) (f : List Int) : Bool := !dead (standS r.1 r.2 gap f)
abbrev Ah (r : Reel) (gap : Option Int) (x y : Int) : Prop := y ∈ aheadS r.1 x gap
theorem not_dead {l : List Int} : dead (some l) = false ↔ ∃ x, x ∈ l := by
  rw [dead_some]
  cases l with
  | nil => exact ⟨fun h => (nomatch h), fun ⟨x, hx⟩ => (nomatch hx)⟩
  | cons a l => exact ⟨fun _ => ⟨a, List.mem_cons_self⟩, fun _ => rfl⟩
theorem mem_see {r : Reel} {gap : Option Int} {S : List Int} {p y : Int} : y ∈ seeS r.1 r.2 gap (some S) p ↔ (∃ x ∈ S, Ah r gap x y) ∧ pic r.2 y = p := by
  unfold seeS
  rw [List.mem_filter, decide_eq_true_iff]
  show y ∈ ssetI (S.flatMap fun s => aheadS r.1 s gap) ∧ _ ↔ _
  rw [mem_ssetI, List.mem_flatMap]
theorem chain_from {r : Reel} {gap : Option Int} : ∀ {f : List Int} {S : List Int}, dead (f.foldl (fun o p => some (seeS r.1 r.2 gap o p)) (some S)) = false ↔ ∃ x ∈ S, Ch (Ah r gap) r.2 x f
  | [], S => by
    show dead (some S) = false ↔ _
    rw [not_dead]
    exact ⟨fun ⟨x, h⟩ => ⟨x, h, trivial⟩, fun ⟨x, h, _⟩ => ⟨x, h⟩⟩
  | p :: f, S => by
    rw [List.foldl_cons, chain_from (f := f)]
    constructor
    · rintro ⟨y, hy, hc⟩
      obtain ⟨⟨x, hx, ha⟩, hp⟩ := mem_see.mp hy
      exact ⟨x, hx, y, ha, hp, hc⟩
    · rintro ⟨x, hx, y, ha, hp, hc⟩
      exact ⟨y, mem_see.mpr ⟨⟨x, hx, ha⟩, hp⟩, hc⟩
theorem can_iff {r : Reel} {gap : Option Int} {p : Int} {f : List Int} : canR r gap (p :: f) = true ↔ ∃ y ∈ fromS r.1 gap, pic r.2 y = p ∧ Ch (Ah r gap) r.2 y f := by
  unfold canR
  rw [Bool.not_eq_true']
  show dead (f.foldl (fun o p => some (seeS r.1 r.2 gap o p)) (some (seeS r.1 r.2 gap none p))) = false ↔ _
  rw [chain_from]
  constructor
  · rintro ⟨y, hy, hc⟩
    unfold seeS at hy
    obtain ⟨h1, h2⟩ := List.mem_filter.mp hy
    exact ⟨y, h1, of_decide_eq_true h2, hc⟩
  · rintro ⟨y, h1, h2, hc⟩
    exact ⟨y, List.mem_filter.mpr ⟨h1, decide_eq_true h2⟩, hc⟩
/-! ### any number of steps -/
def Plus (ns : List (List Int)) (x y : Int) : Prop := ∃ j, Rn ns (· ∈ [x]) (j + 1) y
theorem Plus.one {ns : List (List Int)} {x y : Int} (h : y ∈ nxt ns x) : Plus ns x y := ⟨0, x, List.mem_singleton.mpr rfl, h⟩
theorem Plus.snoc {ns : List (List Int)} {x y z : Int} (h : Plus ns x y) (k : z ∈ nxt ns y) : Plus ns x z := by
  obtain ⟨j, hj⟩ := h
  exact ⟨j + 1, y, hj, k⟩
theorem Plus.trans {ns : List (List Int)} {x y z : Int} (h : Plus ns x y) (k : Plus ns y z) : Plus ns x z := by
  obtain ⟨j, hj⟩ := k
  induction j generalizing z with
  | zero =>
    obtain ⟨s, hs, hz⟩ := hj
    have hs : s ∈ [y] := hs
    rw [List.mem_singleton.mp hs] at hz
    exact h.snoc hz
  | succ j ih =>
    obtain ⟨s, hs, hz⟩ := hj
    exact (ih hs).snoc hz
theorem Plus.rg {ns : List (List Int)} (g : GoodN ns) {x y : Int} (h : 0 ≤ x ∧ x < ns.length) (k : Plus ns x y) : 0 ≤ y ∧ y < ns.length := by
  obtain ⟨j, hj⟩ := k
  exact Rn.rg g (fun z hz => by rw [List.mem_singleton.mp hz]; exact h) _ _ hj
theorem ah_plus {r : Reel} {gap : Option Int} {x y : Int} (h : Ah r gap x y) : Plus r.1 x y := by
  rcases (wide_mem (ns := r.1) (a := []) (b := [x]) (most gap + 1).toNat y).1.mp h with z | ⟨j, j1, j2, hj⟩
  · cases z
  · obtain ⟨i, rfl⟩ : ∃ i, j = i + 1 := ⟨j - 1, by omega⟩
    exact ⟨i, hj⟩
theorem nxt_ah {r : Reel} {gap : Option Int} (gg : GoodG gap) {x y : Int} (h : y ∈ nxt r.1 x) : Ah r gap x y := by
  have := (most_rg gg).1
  exact (wide_mem (ns := r.1) (a := []) (b := [x]) (most gap + 1).toNat y).1.mpr (.inr ⟨1, by omega, by omega, x, List.mem_singleton.mpr rfl, h⟩)
theorem plus_ah {r : Reel} (g : GoodN r.1) {x y : Int} (hx : 0 ≤ x ∧ x < r.1.length) (h : Plus r.1 x y) : Ah r none x y := by
  obtain ⟨j, hj⟩ := h
  have h2 := (Rn.head (ns := r.1) (here := [x]) j y).mpr ⟨x, List.mem_singleton.mpr rfl, hj⟩
  obtain ⟨i, i6, hi⟩ := wide_all g (fun z ⟨s, hs, hz⟩ => by
    have hs : s ∈ [x] := hs
    rw [List.mem_singleton.mp hs] at hz
    exact g.rg _ (nxt_mem hx) z hz) h2
  obtain ⟨s, hs, hi⟩ := (Rn.head (ns := r.1) (here := [x]) i y).mp hi
  rw [List.mem_singleton.mp hs] at hi
  exact (wide_mem (ns := r.1) (a := []) (b := [x]) (most none + 1).toNat y).1.mpr (.inr ⟨i + 1, by omega, by show i + 1 ≤ 7; omega, hi⟩)
theorem from_plus {r : Reel} {gap : Option Int} {y : Int} (h : y ∈ fromS r.1 gap) : y = 0 ∨ Plus r.1 0 y := by
  rcases (wide_mem (ns := r.1) (a := [0]) (b := [0]) (most gap).toNat y).1.mp h with z | ⟨j, j1, j2, hj⟩
  · exact .inl (List.mem_singleton.mp z)
  · obtain ⟨i, rfl⟩ : ∃ i, j = i + 1 := ⟨j - 1, by omega⟩
    exact .inr ⟨i, hj⟩
theorem zero_from (r : Reel) (gap : Option Int) : (0 : Int) ∈ fromS r.1 gap := (wide_mem (ns := r.1) (a := [0]) (b := [0]) (most gap).toNat 0).1.mpr (.inl (List.mem_singleton.mpr rfl))
theorem plus_from {r : Reel} (g : GoodN r.1) {y : Int} (h : Plus r.1 0 y) : y ∈ fromS r.1 none := by
  obtain ⟨j, hj⟩ := h
  obtain ⟨i, i6, hi⟩ := wide_all g (fun z hz => by
    have hz : z ∈ [(0 : Int)] := hz
    rw [List.mem_singleton.mp hz]
    exact zero_in g) hj
  cases i with
  | zero =>
    have hi : y ∈ [(0 : Int)] := hi
    rw [List.mem_singleton.mp hi]
    exact zero_from r none
  | succ i => exact (wide_mem (ns := r.1) (a := [0]) (b := [0]) (most none).toNat y).1.mpr (.inr ⟨i + 1, by omega, by show i + 1 ≤ 6; omega, hi⟩)
/-! ### the same films -/
theorem bd_iff {one other : Reel} {gap : Option Int} {f : List Int} : Bd false one other gap f ↔ canR one gap f ≠ canR other gap f := by
  obtain ⟨e1, e2⟩ := run1 one other gap f k0
  have e1 : (f.foldl (nxK one other gap) k0).1 = standS one.1 one.2 gap f := e1
  have e2 : (f.foldl (nxK one other gap) k0).2 = standS other.1 other.2 gap f := e2
  have eb : badK false (f.foldl (nxK one other gap) k0) = (dead (standS one.1 one.2 gap f) != dead (standS other.1 other.2 gap f)) := by
    unfold badK
    rw [e1, e2]
    cases dead (standS one.1 one.2 gap f) <;> cases dead (standS other.1 other.2 gap f) <;> rfl
  unfold Bd canR
  rw [eb]
  constructor
  · rintro ⟨_, h⟩ z
    have e : dead (standS one.1 one.2 gap f) = dead (standS other.1 other.2 gap f) := by simpa using z
    rw [e] at h
    simp at h
  · intro h
    refine ⟨fun z => ?_, ?_⟩
    · subst z
      exact h rfl
    · have e : dead (standS one.1 one.2 gap f) ≠ dead (standS other.1 other.2 gap f) := fun e => h (by rw [e])
      simpa using e
section
variable {one other : Reel} (g1 : GoodR one.1 one.2) (g2 : GoodR other.1 other.2)
include g1 g2
theorem none_iff (gap : Option Int) : partL false one other gap = none ↔ ∀ f, canR one gap f = canR other gap f := by
  have h := partL_first (half := false) g1 g2 gap
  constructor
  · intro e f
    rw [e] at h
    by_cases z : canR one gap f = canR other gap f
    · exact z
    · exact absurd (bd_iff.mpr z) (h f)
  · intro e
    cases hp : partL false one other gap with
    | none => rfl
    | some d =>
      rw [hp] at h
      exact absurd (e d) (bd_iff.mp h.1)
end
theorem same_dead {a b : Option (List Int)} (h : Same a b) : dead a = dead b := by
  cases a with
  | none => cases b with
    | none => rfl
    | some l => exact h.elim
  | some k => cases b with
    | none => exact h.elim
    | some l =>
      have h : ∀ x, x ∈ k ↔ x ∈ l := h
      rw [dead_some, dead_some]
      cases k with
      | nil => cases l with
        | nil => rfl
        | cons y l => exact absurd ((h y).mpr List.mem_cons_self) (fun z => nomatch z)
      | cons x k => cases l with
        | nil => exact absurd ((h x).mp List.mem_cons_self) (fun z => nomatch z)
        | cons y l => rfl
theorem lcan_eq {r : Reel} (g : GoodN r.1) {gap : Option Int} (gg : GoodG gap) (f : List Int) : lcan gap f r = canR r gap f := by
  have h := same_dead (stand_same g (ps := r.2) gg f (a := none) (b := none) (fun l h => (nomatch h)) (fun l h => (nomatch h)) trivial)
  have h : dead (standS r.1 r.2 gap f) = dead (lstand r.1 r.2 gap f) := h
  unfold lcan canR
  rw [h]
  cases lstand r.1 r.2 gap f with
  | none => rfl
  | some l => rw [dead_some]
end K63

set_option Elab.async false
set_option linter.all false
set_option maxRecDepth 100000
set_option maxHeartbeats 4000000
namespace K63
open PySem PySem.Spec PyProof.Rows L2 Dl
/-! ### all states come to from some -/
def stepC (ns : List (List Int)) (l : List Int) : List Int := ssetI (l ++ bey ns l)
def itC (ns : List (List Int)) (st : List Int) : Nat → List Int
  | 0 => ssetI st
  | k + 1 => stepC ns (itC ns st k)
def comeS (ns : List (List Int)) (st : List Int) : List Int := itC ns st 6
theorem itC_up (ns : List (List Int)) (st : List Int) (k : Nat) : (itC ns st k).Pairwise (· < ·) := by cases k <;> exact ssetI_ord _
theorem itC_mem {ns : List (List Int)} {st : List Int} : ∀ (k : Nat) (x : Int), x ∈ itC ns st k ↔ Wt ns (· ∈ st) k x
  | 0, x => by
    show x ∈ ssetI st ↔ _
    rw [mem_ssetI]
    exact ⟨fun h => ⟨0, Nat.le_refl _, h⟩, fun ⟨j, hj, h⟩ => by cases Nat.le_zero.mp hj; exact h⟩
  | k + 1, x => by
    show x ∈ ssetI (itC ns st k ++ bey ns (itC ns st k)) ↔ _
    rw [mem_ssetI, List.mem_append, bey_mem, itC_mem k x]
    constructor
    · rintro (⟨j, h1, h2⟩ | ⟨s, hs, hx⟩)
      · exact ⟨j, by omega, h2⟩
      · obtain ⟨j, h1, h2⟩ := (itC_mem k s).mp hs
        exact ⟨j + 1, by omega, s, h2, hx⟩
    · rintro ⟨j, h1, h2⟩
      by_cases e : j ≤ k
      · exact .inl ⟨j, e, h2⟩
      · obtain ⟨i, rfl⟩ : ∃ i, j = i + 1 := ⟨j - 1, by omega⟩
        obtain ⟨s, h3, h4⟩ := h2
        exact .inr ⟨s, (itC_mem k s).mpr ⟨i, by omega, h3⟩, h4⟩
theorem itC_rg {ns : List (List Int)} (g : GoodN ns) {st : List Int} (h : InR ns st) (k : Nat) : St6 ns (itC ns st k) := ⟨itC_up ns st k, fun x hx => by
  obtain ⟨j, _, hj⟩ := (itC_mem k x).mp hx
  exact Rn.rg g h j x hj⟩
theorem itC_stay {ns : List (List Int)} {st : List Int} {k : Nat} (h : stepC ns (itC ns st k) = itC ns st k) : ∀ d, itC ns st (k + d) = itC ns st k
  | 0 => rfl
  | d + 1 => by
    show stepC ns (itC ns st (k + d)) = _
    rw [itC_stay h d]
    exact h
theorem itC_end {ns : List (List Int)} {st : List Int} {k : Nat} (h : stepC ns (itC ns st k) = itC ns st k) (hk : k ≤ 6) : itC ns st k = comeS ns st := by
  have := itC_stay h (6 - k)
  rw [show k + (6 - k) = 6 by omega] at this
  exact this.symm
theorem come_iff {ns : List (List Int)} (g : GoodN ns) {st : List Int} (h : InR ns st) {x : Int} : x ∈ comeS ns st ↔ ∃ j, Rn ns (· ∈ st) j x := by
  refine (itC_mem 6 x).trans ⟨fun ⟨j, _, h⟩ => ⟨j, h⟩, fun ⟨j, hj⟩ => wide_all g h hj⟩
theorem itC_last {ns : List (List Int)} (g : GoodN ns) {st : List Int} (h : InR ns st) : stepC ns (itC ns st 6) = itC ns st 6 := by
  refine lt_ext (itC_up ns st 7) (itC_up ns st 6) fun x => ?_
  show x ∈ itC ns st 7 ↔ _
  rw [itC_mem, itC_mem]
  exact ⟨fun ⟨j, _, hj⟩ => wide_all g h hj, fun ⟨j, h1, hj⟩ => ⟨j, by omega, hj⟩⟩
/-! ### the states of a reel -/
@[irreducible] def Sx (r : Reel) : List Int := comeS r.1 [0]
theorem Sx_eq (r : Reel) : Sx r = comeS r.1 [0] := by unfold Sx; rfl
section
variable {r : Reel} (g : GoodN r.1)
include g
theorem in0 : InR r.1 [0] := fun x hx => by rw [List.mem_singleton.mp hx]; exact zero_in g
theorem Sx_ok : St6 r.1 (Sx r) := by rw [Sx_eq]; exact itC_rg g (in0 g) 6
theorem Sx_iff {x : Int} : x ∈ Sx r ↔ ∃ j, Rn r.1 (· ∈ [0]) j x := by rw [Sx_eq]; exact come_iff g (in0 g)
theorem Sx_zero : (0 : Int) ∈ Sx r := (Sx_iff g).mpr ⟨0, List.mem_singleton.mpr rfl⟩
theorem Sx_next {x y : Int} (h : x ∈ Sx r) (k : y ∈ nxt r.1 x) : y ∈ Sx r := by
  obtain ⟨j, hj⟩ := (Sx_iff g).mp h
  exact (Sx_iff g).mpr ⟨j + 1, x, hj, k⟩
theorem Sx_rg {x : Int} (h : x ∈ Sx r) : 0 ≤ x ∧ x < r.1.length := (Sx_ok g).rg x h
theorem Sx_law : sortI (lwith r.1 [0] none) = Sx r := by
  have h1 := Once.lwith g (Once.zero g) none
  have e : ∀ x, x ∈ lwith r.1 [0] none ↔ x ∈ Sx r := fun x => by
    rw [Sx_iff g]
    refine ((lwith_mem (ns := r.1) (b := [0]) (lmost none).toNat x).1).trans ⟨fun ⟨j, _, h⟩ => ⟨j, h⟩, fun ⟨j, hj⟩ => ?_⟩
    obtain ⟨i, h1, h2⟩ := wide_all g (in0 g) hj
    exact ⟨i, by show i ≤ 8; omega, h2⟩
  have up := (Sx_ok g).up
  have pm : (lwith r.1 [0] none).Perm (Sx r) := (List.perm_ext_iff_of_nodup h1.nd (up.imp fun h => by omega)).mpr e
  exact (sortI_eq pm.symm (up.imp fun h => by omega)).symm
end
/-! ### the least of some -/
def minD : List Int → Int
  | [] => 0
  | x :: r => r.foldl min x
theorem fold_min (r : List Int) : ∀ x : Int, (r.foldl min x = x ∨ r.foldl min x ∈ r) ∧ r.foldl min x ≤ x ∧ ∀ y ∈ r, r.foldl min x ≤ y := by
  induction r with
  | nil => intro x; exact ⟨.inl rfl, Int.le_refl _, fun y h => nomatch h⟩
  | cons a r ih =>
    intro x
    obtain ⟨h1, h2, h3⟩ := ih (min x a)
    rw [List.foldl_cons]
    refine ⟨?_, by omega, fun y hy => ?_⟩
    · rcases h1 with h | h
      · rw [h]
        by_cases hx : x ≤ a
        · exact .inl (by omega)
        · exact .inr (by have : min x a = a := by omega
                         rw [this]; exact List.mem_cons_self)
      · exact .inr (List.mem_cons_of_mem _ h)
    · rcases List.mem_cons.mp hy with e | e
      · rw [e]; omega
      · exact h3 y e
theorem minD_mem {l : List Int} (h : l ≠ []) : minD l ∈ l := by
  cases l with
  | nil => exact absurd rfl h
  | cons x r =>
    rcases (fold_min r x).1 with e | e
    · show r.foldl min x ∈ _
      rw [e]
      exact List.mem_cons_self
    · exact List.mem_cons_of_mem _ e
theorem minD_le {l : List Int} {y : Int} (h : y ∈ l) : minD l ≤ y := by
  cases l with
  | nil => cases h
  | cons x r =>
    rcases List.mem_cons.mp h with e | e
    · rw [e]; exact (fold_min r x).2.1
    · exact (fold_min r x).2.2 y e
theorem minD_eq {l : List Int} {m : Int} (h : m ∈ l) (h2 : ∀ y ∈ l, m ≤ y) : m = minD l := by
  have h3 := minD_mem (List.ne_nil_of_mem h)
  have h4 := h2 _ h3
  have h5 := minD_le h
  omega
/-! ### alike in so many steps -/
def Em (r : Reel) : Nat → Int → Int → Prop
  | 0, _, _ => True
  | k + 1, x, y => Em r k x y ∧ pic r.2 x = pic r.2 y ∧ (∀ a ∈ nxt r.1 x, ∃ b ∈ nxt r.1 y, Em r k a b) ∧ (∀ b ∈ nxt r.1 y, ∃ a ∈ nxt r.1 x, Em r k a b)
section
variable {r : Reel}
theorem Em.refl : ∀ (k : Nat) (x : Int), Em r k x x
  | 0, _ => trivial
  | k + 1, x => ⟨Em.refl k x, rfl, fun a h => ⟨a, h, Em.refl k a⟩, fun a h => ⟨a, h, Em.refl k a⟩⟩
theorem Em.symm : ∀ {k : Nat} {x y : Int}, Em r k x y → Em r k y x
  | 0, _, _, _ => trivial
  | k + 1, x, y, ⟨h1, h2, h3, h4⟩ => ⟨h1.symm, h2.symm, fun a ha => by obtain ⟨b, hb, e⟩ := h4 a ha; exact ⟨b, hb, e.symm⟩, fun a ha => by obtain ⟨b, hb, e⟩ := h3 a ha; exact ⟨b, hb, e.symm⟩⟩
theorem Em.trans : ∀ {k : Nat} {x y z : Int}, Em r k x y → Em r k y z → Em r k x z
  | 0, _, _, _, _, _ => trivial
  | k + 1, x, y, z, ⟨h1, h2, h3, h4⟩, ⟨k1, k2, k3, k4⟩ => ⟨h1.trans k1, h2.trans k2, fun a ha => by
      obtain ⟨b, hb, e⟩ := h3 a ha
      obtain ⟨c, hc, e2⟩ := k3 b hb
      exact ⟨c, hc, e.trans e2⟩, fun a ha => by
      obtain ⟨b, hb, e⟩ := k4 a ha
      obtain ⟨c, hc, e2⟩ := h4 b hb
      exact ⟨c, hc, e2.trans e⟩⟩
/-- whatever keeps pictures and steps is kept apart in no step -/
theorem Em.of {R : Int → Int → Prop} (h : ∀ x y, R x y → pic r.2 x = pic r.2 y ∧ (∀ a ∈ nxt r.1 x, ∃ b ∈ nxt r.1 y, R a b) ∧ (∀ b ∈ nxt r.1 y, ∃ a ∈ nxt r.1 x, R a b)) : ∀ (k : Nat) {x y : Int}, R x y → Em r k x y
  | 0, _, _, _ => trivial
  | k + 1, x, y, hx => ⟨Em.of h k hx, (h x y hx).1, fun a ha => by
      obtain ⟨b, hb, e⟩ := (h x y hx).2.1 a ha
      exact ⟨b, hb, Em.of h k e⟩, fun b hb => by
      obtain ⟨a, ha, e⟩ := (h x y hx).2.2 b hb
      exact ⟨a, ha, Em.of h k e⟩⟩
end
/-! ### heads, step by step -/
def mkH (r : Reel) (h : Int → Int) (o : Int) : Int × List Int := (pic r.2 o, ssetI ((nxt r.1 o).map h))
def nextH (r : Reel) (h : Int → Int) (s : Int) : Int := minD ((Sx r).filter fun o => decide (mkH r h o = mkH r h s) && decide (h o = h s))
def hN (r : Reel) : Nat → Int → Int
  | 0 => fun _ => 0
  | k + 1 => nextH r (hN r k)
structure HOk (r : Reel) (k : Nat) (s : Int) : Prop where
  mem : hN r k s ∈ Sx r
  em : Em r k (hN r k s) s
  le : ∀ o ∈ Sx r, Em r k o s → hN r k s ≤ o
section
variable {r : Reel} (g : GoodR r.1 r.2)
include g
theorem hN_iff {k : Nat} (h : ∀ s ∈ Sx r, HOk r k s) {x y : Int} (hx : x ∈ Sx r) (hy : y ∈ Sx r) : hN r k x = hN r k y ↔ Em r k x y := by
  constructor
  · intro e
    have h1 := (h x hx).em
    rw [e] at h1
    exact h1.symm.trans (h y hy).em
  · intro e
    have h1 := (h x hx).le _ (h y hy).mem ((h y hy).em.trans e.symm)
    have h2 := (h y hy).le _ (h x hx).mem ((h x hx).em.trans e)
    exact Int.le_antisymm h1 h2
theorem mk_iff {k : Nat} (h : ∀ s ∈ Sx r, HOk r k s) {x y : Int} (hx : x ∈ Sx r) (hy : y ∈ Sx r) : (decide (mkH r (hN r k) x = mkH r (hN r k) y) && decide (hN r k x = hN r k y)) = true ↔ Em r (k + 1) x y := by
  rw [Bool.and_eq_true, decide_eq_true_iff, decide_eq_true_iff, hN_iff g h hx hy]
  unfold mkH
  rw [Prod.mk.injEq]
  have hs : ssetI ((nxt r.1 x).map (hN r k)) = ssetI ((nxt r.1 y).map (hN r k)) ↔ (∀ a ∈ nxt r.1 x, ∃ b ∈ nxt r.1 y, Em r k a b) ∧ (∀ b ∈ nxt r.1 y, ∃ a ∈ nxt r.1 x, Em r k a b) := by
    constructor
    · intro e
      have m : ∀ z, z ∈ (nxt r.1 x).map (hN r k) ↔ z ∈ (nxt r.1 y).map (hN r k) := fun z => by rw [← mem_ssetI, e, mem_ssetI]
      refine ⟨fun a ha => ?_, fun b hb => ?_⟩
      · obtain ⟨b, hb, e2⟩ := List.mem_map.mp ((m _).mp (List.mem_map.mpr ⟨a, ha, rfl⟩))
        exact ⟨b, hb, ((hN_iff g h (Sx_next g.n hy hb) (Sx_next g.n hx ha)).mp e2).symm⟩
      · obtain ⟨a, ha, e2⟩ := List.mem_map.mp ((m _).mpr (List.mem_map.mpr ⟨b, hb, rfl⟩))
        exact ⟨a, ha, (hN_iff g h (Sx_next g.n hx ha) (Sx_next g.n hy hb)).mp e2⟩
    · rintro ⟨e1, e2⟩
      refine lt_ext (ssetI_ord _) (ssetI_ord _) fun z => ?_
      rw [mem_ssetI, mem_ssetI]
      constructor
      · intro hz
        obtain ⟨a, ha, rfl⟩ := List.mem_map.mp hz
        obtain ⟨b, hb, e⟩ := e1 a ha
        exact List.mem_map.mpr ⟨b, hb, ((hN_iff g h (Sx_next g.n hx ha) (Sx_next g.n hy hb)).mpr e).symm⟩
      · intro hz
        obtain ⟨b, hb, rfl⟩ := List.mem_map.mp hz
        obtain ⟨a, ha, e⟩ := e2 b hb
        exact List.mem_map.mpr ⟨a, ha, (hN_iff g h (Sx_next g.n hx ha) (Sx_next g.n hy hb)).mpr e⟩
  rw [hs]
  constructor
  · rintro ⟨⟨h1, h2, h3⟩, h4⟩
    exact ⟨h4, h1, h2, h3⟩
  · rintro ⟨h4, h1, h2, h3⟩
    exact ⟨⟨h1, h2, h3⟩, h4⟩
theorem hN_ok : ∀ (k : Nat) (s : Int), s ∈ Sx r → HOk r k s
  | 0, s, hs => ⟨Sx_zero g.n, trivial, fun o ho _ => (Sx_rg g.n ho).1⟩
  | k + 1, s, hs => by
    have ih := hN_ok k
    have m : ∀ o, o ∈ (Sx r).filter (fun o => decide (mkH r (hN r k) o = mkH r (hN r k) s) && decide (hN r k o = hN r k s)) ↔ o ∈ Sx r ∧ Em r (k + 1) o s := fun o => by
      rw [List.mem_filter]
      exact ⟨fun ⟨h1, h2⟩ => ⟨h1, (mk_iff g ih h1 hs).mp h2⟩, fun ⟨h1, h2⟩ => ⟨h1, (mk_iff g ih h1 hs).mpr h2⟩⟩
    have h1 := (m _).mp (minD_mem (List.ne_nil_of_mem ((m s).mpr ⟨hs, Em.refl _ _⟩)))
    exact ⟨h1.1, h1.2, fun o ho he => minD_le ((m o).mpr ⟨ho, he⟩)⟩
/-- the least of some that are those alike is the head -/
theorem head_of {k : Nat} {s : Int} (hs : s ∈ Sx r) {l : List Int} (h : ∀ o, o ∈ l ↔ o ∈ Sx r ∧ Em r k o s) : minD l = hN r k s := by
  have q := hN_ok g k s hs
  exact (minD_eq ((h _).mpr ⟨q.mem, q.em⟩) fun y hy => q.le y ((h y).mp hy).1 ((h y).mp hy).2).symm
end
/-! ### pairs, struck out -/
def left0 (r : Reel) : List Pr := (Sx r).flatMap fun s => ((Sx r).filter fun m => decide (pic r.2 s = pic r.2 m)).map fun m => (s, m)
def keptP (r : Reel) (L : List Pr) (p : Pr) : Bool := ((nxt r.1 p.1).filter fun a => ((nxt r.1 p.2).filter fun b => decide ((a, b) ∈ L)).isEmpty).isEmpty && ((nxt r.1 p.2).filter fun b => ((nxt r.1 p.1).filter fun a => decide ((a, b) ∈ L)).isEmpty).isEmpty
def leftL (r : Reel) : Nat → List Pr
  | 0 => left0 r
  | k + 1 => (leftL r k).filter (keptP r (leftL r k))
theorem none_lost {α β : Type} {as : List α} {bs : List β} {q : α → β → Bool} : (as.filter fun a => (bs.filter fun b => q a b).isEmpty).isEmpty = true ↔ ∀ a ∈ as, ∃ b ∈ bs, q a b = true := by
  rw [List.isEmpty_iff, List.filter_eq_nil_iff]
  constructor
  · intro h a ha
    have h1 := h a ha
    rw [List.isEmpty_iff, List.filter_eq_nil_iff] at h1
    apply Classical.byContradiction
    intro hn
    exact h1 fun b hb hq => hn ⟨b, hb, hq⟩
  · intro h a ha he
    obtain ⟨b, hb, hq⟩ := h a ha
    rw [List.isEmpty_iff, List.filter_eq_nil_iff] at he
    exact he b hb hq
section
variable {r : Reel} (g : GoodR r.1 r.2)
include g
theorem left_iff : ∀ (k : Nat) (p : Pr), p ∈ leftL r k ↔ p.1 ∈ Sx r ∧ p.2 ∈ Sx r ∧ Em r (k + 1) p.1 p.2
  | 0, p => by
    show p ∈ left0 r ↔ _
    unfold left0
    rw [List.mem_flatMap]
    constructor
    · rintro ⟨s, hs, hm⟩
      obtain ⟨m, hm2, rfl⟩ := List.mem_map.mp hm
      obtain ⟨h1, h2⟩ := List.mem_filter.mp hm2
      have n1 := g.n.ne _ (nxt_mem (Sx_rg g.n hs))
      have n2 := g.n.ne _ (nxt_mem (Sx_rg g.n h1))
      refine ⟨hs, h1, trivial, of_decide_eq_true h2, fun a _ => ?_, fun b _ => ?_⟩
      · obtain ⟨b, hb⟩ := List.exists_mem_of_ne_nil _ n2
        exact ⟨b, hb, trivial⟩
      · obtain ⟨a, ha⟩ := List.exists_mem_of_ne_nil _ n1
        exact ⟨a, ha, trivial⟩
    · rintro ⟨h1, h2, _, h3, _⟩
      exact ⟨p.1, h1, List.mem_map.mpr ⟨p.2, List.mem_filter.mpr ⟨h2, decide_eq_true h3⟩, rfl⟩⟩
  | k + 1, p => by
    show p ∈ (leftL r k).filter (keptP r (leftL r k)) ↔ _
    rw [List.mem_filter, left_iff k p]
    unfold keptP
    rw [Bool.and_eq_true, none_lost, none_lost]
    constructor
    · rintro ⟨⟨h1, h2, h3⟩, h4, h5⟩
      refine ⟨h1, h2, h3, h3.2.1, fun a ha => ?_, fun b hb => ?_⟩
      · obtain ⟨b, hb, e⟩ := h4 a ha
        exact ⟨b, hb, ((left_iff k (a, b)).mp (of_decide_eq_true e)).2.2⟩
      · obtain ⟨a, ha, e⟩ := h5 b hb
        exact ⟨a, ha, ((left_iff k (a, b)).mp (of_decide_eq_true e)).2.2⟩
    · rintro ⟨h1, h2, h3, _, h4, h5⟩
      refine ⟨⟨h1, h2, h3⟩, fun a ha => ?_, fun b hb => ?_⟩
      · obtain ⟨b, hb, e⟩ := h4 a ha
        exact ⟨b, hb, decide_eq_true ((left_iff k (a, b)).mpr ⟨Sx_next g.n h1 ha, Sx_next g.n h2 hb, e⟩)⟩
      · obtain ⟨a, ha, e⟩ := h5 b hb
        exact ⟨a, ha, decide_eq_true ((left_iff k (a, b)).mpr ⟨Sx_next g.n h1 ha, Sx_next g.n h2 hb, e⟩)⟩
omit g in
theorem left_sub (k : Nat) : (leftL r (k + 1)).Sublist (leftL r k) := List.filter_sublist
omit g in
theorem left_stay {i : Nat} (h : leftL r (i + 1) = leftL r i) : ∀ d, leftL r (i + d) = leftL r i
  | 0 => rfl
  | d + 1 => by
    show (leftL r (i + d)).filter (keptP r (leftL r (i + d))) = _
    rw [left_stay h d]
    exact h
omit g in
theorem left_dec : ∀ i, (∃ j, j ≤ i ∧ leftL r (j + 1) = leftL r j) ∨ (leftL r i).length + i ≤ (left0 r).length
  | 0 => .inr (by
    show (left0 r).length + 0 ≤ (left0 r).length
    exact Nat.le_of_eq (Nat.add_zero _))
  | i + 1 => by
    rcases left_dec i with ⟨j, h1, h2⟩ | h
    · exact .inl ⟨j, Nat.le_succ_of_le h1, h2⟩
    · have h2 := (left_sub (r := r) i).length_le
      rcases Nat.lt_or_eq_of_le h2 with h3 | h3
      · exact .inr (Nat.le_trans (by rw [← Nat.add_assoc, Nat.add_right_comm]; exact Nat.add_le_add_right h3 i) h)
      · exact .inl ⟨i, Nat.le_succ i, (left_sub i).eq_of_length h3⟩
theorem left0_len : (left0 r).length ≤ 36 := by
  have hl := (Sx_ok g.n).len g.n
  have k : (left0 r).length ≤ (Sx r).length * 6 := flat_lenM fun s hs => by
    rw [List.length_map]
    exact Nat.le_trans (List.length_filter_le _ _) hl
  exact Nat.le_trans k (Nat.mul_le_mul_right 6 hl)
/-- from the 37th on nothing is struck out -/
theorem left_same {j : Nat} (hj : 37 ≤ j) : leftL r j = leftL r 37 := by
  rcases left_dec (r := r) 37 with ⟨i, h1, h2⟩ | h
  · have e1 := left_stay h2 (j - i)
    have e2 := left_stay h2 (37 - i)
    rw [show i + (j - i) = j by omega] at e1
    rw [show i + (37 - i) = 37 by omega] at e2
    rw [e1, e2]
  · have h2 := Nat.le_trans h (left0_len g)
    generalize (leftL r 37).length = a at h2
    omega
theorem Em_same {j : Nat} (hj : 38 ≤ j) {x y : Int} (hx : x ∈ Sx r) (hy : y ∈ Sx r) : Em r j x y ↔ Em r 38 x y := by
  obtain ⟨i, rfl⟩ : ∃ i, j = i + 1 := ⟨j - 1, by omega⟩
  have h1 := left_iff g i (x, y)
  have h2 := left_iff g 37 (x, y)
  rw [left_same g (by omega : 37 ≤ i)] at h1
  have h3 := h1.symm.trans h2
  exact ⟨fun h => (h3.mp ⟨hx, hy, h⟩).2.2, fun h => (h3.mpr ⟨hx, hy, h⟩).2.2⟩
theorem Em_two {i j : Nat} (hi : 38 ≤ i) (hj : 38 ≤ j) {x y : Int} (hx : x ∈ Sx r) (hy : y ∈ Sx r) : Em r i x y ↔ Em r j x y := (Em_same g hi hx hy).trans (Em_same g hj hx hy).symm
/-- heads that stay once stay -/
theorem hN_stay {k : Nat} (h : ∀ s ∈ Sx r, hN r (k + 1) s = hN r k s) : ∀ d, ∀ s ∈ Sx r, hN r (k + d) s = hN r k s
  | 0, s, hs => rfl
  | d + 1, s, hs => by
    rw [← h s hs]
    show nextH r (hN r (k + d)) s = nextH r (hN r k) s
    have ih := hN_stay h d
    have e : ∀ o ∈ Sx r, mkH r (hN r (k + d)) o = mkH r (hN r k) o := fun o ho => by
      unfold mkH
      rw [List.map_congr_left fun a ha => ih a (Sx_next g.n ho ha)]
    unfold nextH
    congr 1
    apply List.filter_congr
    intro o ho
    rw [e o ho, e s hs, ih o ho, ih s hs]
theorem hN_last {s : Int} (hs : s ∈ Sx r) : hN r 41 s = hN r 40 s := by
  have q1 := hN_ok g 41 s hs
  have q2 := hN_ok g 40 s hs
  have e : ∀ o ∈ Sx r, Em r 41 o s ↔ Em r 40 o s := fun o ho => Em_two g (i := 41) (j := 40) (by decide) (by decide) ho hs
  have h1 := q1.le _ q2.mem ((e _ q2.mem).mpr q2.em)
  have h2 := q2.le _ q1.mem ((e _ q1.mem).mp q1.em)
  exact Int.le_antisymm h1 h2
end
/-! ### the heads -/
@[irreducible] def hS (r : Reel) (s : Int) : Int := hN r 40 s
theorem hS_eq (r : Reel) (s : Int) : hS r s = hN r 40 s := by unfold hS; rfl
@[irreducible] def BB (r : Reel) (x y : Int) : Prop := Em r 40 x y
theorem BB_eq (r : Reel) (x y : Int) : BB r x y = Em r 40 x y := by unfold BB; rfl
section
variable {r : Reel} (g : GoodR r.1 r.2)
theorem BB.refl (x : Int) : BB r x x := by rw [BB_eq]; exact Em.refl _ _
theorem BB.symm {x y : Int} (h : BB r x y) : BB r y x := by rw [BB_eq] at *; exact Em.symm h
theorem BB.trans {x y z : Int} (h : BB r x y) (k : BB r y z) : BB r x z := by rw [BB_eq] at *; exact Em.trans h k
theorem BB.of {R : Int → Int → Prop} (h : ∀ x y, R x y → pic r.2 x = pic r.2 y ∧ (∀ a ∈ nxt r.1 x, ∃ b ∈ nxt r.1 y, R a b) ∧ (∀ b ∈ nxt r.1 y, ∃ a ∈ nxt r.1 x, R a b)) {x y : Int} (k : R x y) : BB r x y := by rw [BB_eq]; exact Em.of h 40 k
include g
theorem hS_of {k : Nat} (hk : k ≤ 40) (h : ∀ s ∈ Sx r, hN r (k + 1) s = hN r k s) {s : Int} (hs : s ∈ Sx r) : hN r k s = hS r s := by
  obtain ⟨d, hd⟩ : ∃ d, k + d = 40 := ⟨40 - k, Nat.add_sub_cancel' hk⟩
  have e := hN_stay g h d s hs
  rw [hd] at e
  rw [hS_eq, e]
theorem hS_ok {s : Int} (hs : s ∈ Sx r) : hS r s ∈ Sx r ∧ BB r (hS r s) s ∧ ∀ o ∈ Sx r, BB r o s → hS r s ≤ o := by
  have q := hN_ok g 40 s hs
  rw [hS_eq]
  exact ⟨q.mem, by rw [BB_eq]; exact q.em, fun o ho h => q.le o ho (by rw [BB_eq] at h; exact h)⟩
theorem hS_mem {s : Int} (hs : s ∈ Sx r) : hS r s ∈ Sx r := (hS_ok g hs).1
theorem hS_BB {s : Int} (hs : s ∈ Sx r) : BB r (hS r s) s := (hS_ok g hs).2.1
theorem hS_le {s o : Int} (hs : s ∈ Sx r) (ho : o ∈ Sx r) (h : BB r o s) : hS r s ≤ o := (hS_ok g hs).2.2 o ho h
theorem hS_iff {x y : Int} (hx : x ∈ Sx r) (hy : y ∈ Sx r) : hS r x = hS r y ↔ BB r x y := by
  rw [hS_eq, hS_eq, BB_eq]
  exact hN_iff g (hN_ok g 40) hx hy
theorem BB_step {x y : Int} (hx : x ∈ Sx r) (hy : y ∈ Sx r) (h : BB r x y) : pic r.2 x = pic r.2 y ∧ (∀ a ∈ nxt r.1 x, ∃ b ∈ nxt r.1 y, BB r a b) ∧ (∀ b ∈ nxt r.1 y, ∃ a ∈ nxt r.1 x, BB r a b) := by
  rw [BB_eq] at h
  obtain ⟨_, h1, h2, h3⟩ : Em r (40 + 1) x y := (Em_two g (i := 40 + 1) (j := 40) (by decide) (by decide) hx hy).mpr h
  refine ⟨h1, fun a ha => ?_, fun b hb => ?_⟩
  · obtain ⟨b, hb, e⟩ := h2 a ha
    exact ⟨b, hb, by rw [BB_eq]; exact e⟩
  · obtain ⟨a, ha, e⟩ := h3 b hb
    exact ⟨a, ha, by rw [BB_eq]; exact e⟩
/-- the law's pairs tell the same -/
theorem left_BB {j : Nat} (hj : 37 ≤ j) {p : Pr} : p ∈ leftL r j ↔ p.1 ∈ Sx r ∧ p.2 ∈ Sx r ∧ BB r p.1 p.2 := by
  rw [left_iff g j p, BB_eq]
  constructor
  · rintro ⟨h1, h2, h3⟩
    exact ⟨h1, h2, (Em_two g (i := j + 1) (j := 40) (by omega) (by decide) h1 h2).mp h3⟩
  · rintro ⟨h1, h2, h3⟩
    exact ⟨h1, h2, (Em_two g (i := 40) (j := j + 1) (by decide) (by omega) h1 h2).mp h3⟩
theorem head_law {j : Nat} (hj : 37 ≤ j) {s : Int} (hs : s ∈ Sx r) : minD (((leftL r j).filter fun p => decide (p.1 = s)).map (·.2)) = hS r s := by
  rw [hS_eq]
  refine head_of g (k := 40) hs fun o => ?_
  rw [List.mem_map]
  constructor
  · rintro ⟨p, hp, rfl⟩
    obtain ⟨h1, h2⟩ := List.mem_filter.mp hp
    obtain ⟨k1, k2, k3⟩ := (left_BB g hj).mp h1
    rw [of_decide_eq_true h2, BB_eq] at k3
    exact ⟨k2, k3.symm⟩
  · rintro ⟨h1, h2⟩
    exact ⟨(s, o), List.mem_filter.mpr ⟨(left_BB g hj).mpr ⟨hs, h1, by rw [BB_eq]; exact h2.symm⟩, decide_eq_true rfl⟩, rfl⟩
end
end K63

set_option Elab.async false
set_option linter.all false
set_option maxRecDepth 100000
set_option maxHeartbeats 4000000
namespace K63
open PySem PySem.Spec PyProof.Rows L2 Dl
/-! ### where a thing stands in a list -/
def posI : List Int → Int → Nat
  | [], _ => 0
  | y :: l, x => if y = x then 0 else posI l x + 1
theorem posI_at : ∀ {l : List Int} {x : Int}, x ∈ l → l[posI l x]? = some x
  | y :: l, x, h => by
    unfold posI
    by_cases e : y = x
    · rw [if_pos e, e] <;> rfl
    · rw [if_neg e, List.getElem?_cons_succ]
      exact posI_at ((List.mem_cons.mp h).resolve_left fun z => e z.symm)
theorem posI_first : ∀ {l : List Int} {x : Int} {m : Nat}, m < posI l x → l[m]? ≠ some x
  | [], x, m, h => by cases h
  | y :: l, x, m, h => by
    unfold posI at h
    by_cases e : y = x
    · rw [if_pos e] at h
      cases h
    · rw [if_neg e] at h
      cases m with
      | zero => intro z; exact e (Option.some.inj z)
      | succ m =>
        rw [List.getElem?_cons_succ]
        exact posI_first (by omega)
theorem posI_lt {l : List Int} {x : Int} (h : x ∈ l) : posI l x < l.length := (List.getElem?_eq_some_iff.mp (posI_at h)).1
theorem posI_nth : ∀ {l : List Int}, l.Nodup → ∀ {i : Nat} {x : Int}, l[i]? = some x → posI l x = i
  | [], _, i, x, h => by cases h
  | y :: l, nd, i, x, h => by
    obtain ⟨n1, n2⟩ := List.nodup_cons.mp nd
    unfold posI
    cases i with
    | zero =>
      rw [if_pos (Option.some.inj h)]
    | succ i =>
      rw [List.getElem?_cons_succ] at h
      rw [if_neg fun z => n1 (by rw [z]; exact List.mem_of_getElem? h), posI_nth n2 h]
theorem map_at {α : Type} (l : List α) (d : α) : (upToN l.length).map (fun i => (l[i.toNat]?).getD d) = l := by
  apply List.ext_getElem
  · unfold upToN
    simp
  · intro i h1 h2
    unfold upToN
    simp [List.getElem?_eq_getElem h2]
/-! ### the folded reel -/
@[irreducible] def lotsS (r : Reel) : List Int := ssetI ((Sx r).map (hS r))
theorem lots_eq (r : Reel) : lotsS r = ssetI ((Sx r).map (hS r)) := by unfold lotsS; rfl
theorem lots_up (r : Reel) : (lotsS r).Pairwise (· < ·) := by rw [lots_eq]; exact ssetI_ord _
def toP (r : Reel) (x : Int) : Int := (posI (lotsS r) (hS r x) : Nat)
def rowS (r : Reel) (h : Int) : List Int := ((Sx r).filter fun s => decide (hS r s = h)).flatMap fun s => (nxt r.1 s).map (toP r)
def foldN (r : Reel) : List (List Int) := (lotsS r).map fun h => ssetI (rowS r h)
def foldR (r : Reel) : Reel := (foldN r, (lotsS r).map (pic r.2))
section
variable {r : Reel} (g : GoodR r.1 r.2)
include g
omit g in
theorem lot_mem {x : Int} (hx : x ∈ Sx r) : hS r x ∈ lotsS r := by rw [lots_eq]; exact mem_ssetI.mpr (List.mem_map.mpr ⟨x, hx, rfl⟩)
omit g in
theorem lot_of {h : Int} (hh : h ∈ lotsS r) : ∃ x ∈ Sx r, hS r x = h := by
  rw [lots_eq] at hh
  obtain ⟨x, hx, e⟩ := List.mem_map.mp (mem_ssetI.mp hh)
  exact ⟨x, hx, e⟩
omit g in
theorem lots_nd : (lotsS r).Nodup := (lots_up r).imp fun h => by omega
theorem lots_in {h : Int} (hh : h ∈ lotsS r) : h ∈ Sx r ∧ hS r h = h := by
  obtain ⟨x, hx, rfl⟩ := lot_of hh
  have h1 := hS_mem g hx
  exact ⟨h1, (hS_iff g h1 hx).mpr (hS_BB g hx)⟩
theorem lots_len : (lotsS r).length ≤ 6 := by
  have h1 := up_len (n := r.1.length) (lots_up r) fun x hx => Sx_rg g.n (lots_in g hx).1
  exact Nat.le_trans h1 g.n.hi
theorem p_rg {x : Int} (hx : x ∈ Sx r) : 0 ≤ toP r x ∧ toP r x < ((lotsS r).length : Nat) := by
  have := posI_lt (lot_mem hx)
  unfold toP
  exact ⟨Int.natCast_nonneg _, by exact_mod_cast this⟩
theorem p_iff {x y : Int} (hx : x ∈ Sx r) (hy : y ∈ Sx r) : toP r x = toP r y ↔ hS r x = hS r y := by
  unfold toP
  constructor
  · intro e
    have e2 : posI (lotsS r) (hS r x) = posI (lotsS r) (hS r y) := by exact_mod_cast e
    have h1 := posI_at (lot_mem hx)
    rw [e2, posI_at (lot_mem hy)] at h1
    exact (Option.some.inj h1).symm
  · intro e
    rw [e]
omit g in
theorem p_onto {i : Int} (h : 0 ≤ i ∧ i < ((lotsS r).length : Nat)) : ∃ x ∈ Sx r, toP r x = i := by
  have hl : i.toNat < (lotsS r).length := by omega
  obtain ⟨x, hx, e⟩ := lot_of (List.getElem_mem hl)
  refine ⟨x, hx, ?_⟩
  unfold toP
  rw [e, posI_nth lots_nd (List.getElem?_eq_getElem hl)]
  omega
theorem p_zero : toP r 0 = 0 := by
  have h0 := Sx_zero g.n
  have h1 := hS_le g h0 h0 (BB.refl _)
  have h2 := (Sx_rg g.n (hS_mem g h0)).1
  have e : hS r 0 = 0 := Int.le_antisymm h1 h2
  have hm := lot_mem h0
  rw [e] at hm
  unfold toP
  rw [e]
  have nn : ∀ x ∈ lotsS r, 0 ≤ x := fun x hx => (Sx_rg g.n (lots_in g hx).1).1
  have up := lots_up r
  cases hl : lotsS r with
  | nil => rw [hl] at hm; cases hm
  | cons y l =>
    rw [hl] at hm up nn
    have hy := nn y List.mem_cons_self
    have : y = 0 := by
      rcases List.mem_cons.mp hm with z | z
      · exact z.symm
      · have := (List.pairwise_cons.mp up).1 0 z
        omega
    unfold posI
    rw [if_pos this] <;> rfl
omit g in
theorem at_fold {α : Type} (f : Int → α) (d : α) {x : Int} (hx : x ∈ Sx r) : (((lotsS r).map f)[(toP r x).toNat]?).getD d = f (hS r x) := by
  unfold toP
  rw [Int.toNat_natCast, List.getElem?_map, posI_at (lot_mem hx)] <;> rfl
theorem row_mem {x : Int} (hx : x ∈ Sx r) {z : Int} : z ∈ rowS r (hS r x) ↔ ∃ t ∈ nxt r.1 x, toP r t = z := by
  unfold rowS
  rw [List.mem_flatMap]
  constructor
  · rintro ⟨s, hs, hz⟩
    obtain ⟨h1, h2⟩ := List.mem_filter.mp hs
    obtain ⟨t, ht, rfl⟩ := List.mem_map.mp hz
    obtain ⟨b, hb, e⟩ := (BB_step g h1 hx ((hS_iff g h1 hx).mp (of_decide_eq_true h2))).2.1 t ht
    have t1 := Sx_next g.n h1 ht
    have t2 := Sx_next g.n hx hb
    exact ⟨b, hb, (p_iff g t2 t1).mpr ((hS_iff g t2 t1).mpr e.symm)⟩
  · rintro ⟨t, ht, rfl⟩
    exact ⟨x, List.mem_filter.mpr ⟨hx, decide_eq_true rfl⟩, List.mem_map.mpr ⟨t, ht, rfl⟩⟩
theorem nxt_fold {x : Int} (hx : x ∈ Sx r) {z : Int} : z ∈ nxt (foldR r).1 (toP r x) ↔ ∃ t ∈ nxt r.1 x, toP r t = z := by
  have e : nxt (foldR r).1 (toP r x) = ssetI (rowS r (hS r x)) := at_fold (fun h => ssetI (rowS r h)) [] hx
  rw [e, mem_ssetI]
  exact row_mem g hx
theorem pic_fold {x : Int} (hx : x ∈ Sx r) : pic (foldR r).2 (toP r x) = pic r.2 x := by
  have e : pic (foldR r).2 (toP r x) = pic r.2 (hS r x) := at_fold (pic r.2) 0 hx
  rw [e]
  exact (BB_step g (hS_mem g hx) hx (hS_BB g hx)).1
theorem fold_good : GoodR (foldR r).1 (foldR r).2 where
  n := {
    lo := by
      show 1 ≤ ((lotsS r).map _).length
      rw [List.length_map]
      exact List.length_pos_of_mem (lot_mem (Sx_zero g.n))
    hi := by
      show ((lotsS r).map _).length ≤ 6
      rw [List.length_map]
      exact lots_len g
    ne := fun l hl => by
      obtain ⟨h, hh, rfl⟩ := List.mem_map.mp hl
      obtain ⟨x, hx, rfl⟩ := lot_of hh
      obtain ⟨t, ht⟩ := List.exists_mem_of_ne_nil _ (g.n.ne _ (nxt_mem (Sx_rg g.n hx)))
      exact List.ne_nil_of_mem (mem_ssetI.mpr ((row_mem g hx).mpr ⟨t, ht, rfl⟩))
    rg := fun l hl z hz => by
      obtain ⟨h, hh, rfl⟩ := List.mem_map.mp hl
      obtain ⟨x, hx, rfl⟩ := lot_of hh
      obtain ⟨t, ht, rfl⟩ := (row_mem g hx).mp (mem_ssetI.mp hz)
      have := p_rg g (Sx_next g.n hx ht)
      show 0 ≤ toP r t ∧ toP r t < (((lotsS r).map _).length : Nat)
      rw [List.length_map]
      exact this
    up := fun l hl => by
      obtain ⟨h, hh, rfl⟩ := List.mem_map.mp hl
      exact ssetI_ord _ }
  len := by
    show ((lotsS r).map _).length = ((lotsS r).map _).length
    rw [List.length_map, List.length_map]
  rg := fun p hp => by
    obtain ⟨h, hh, rfl⟩ := List.mem_map.mp hp
    exact g.rg _ (pic_mem g (Sx_rg g.n (lots_in g hh).1))
/-! ### it shows the same -/
theorem rn_Sx {x : Int} (hx : x ∈ Sx r) : ∀ (j : Nat) {y : Int}, Rn r.1 (· ∈ [x]) j y → y ∈ Sx r
  | 0, y, h => by rw [List.mem_singleton.mp h]; exact hx
  | j + 1, y, ⟨s, h1, h2⟩ => Sx_next g.n (rn_Sx hx j h1) h2
theorem rn_fold {x : Int} (hx : x ∈ Sx r) : ∀ (j : Nat) {z : Int}, Rn (foldR r).1 (· ∈ [toP r x]) j z ↔ ∃ y, Rn r.1 (· ∈ [x]) j y ∧ toP r y = z
  | 0, z => by
    constructor
    · intro h
      exact ⟨x, List.mem_singleton.mpr rfl, (List.mem_singleton.mp h).symm⟩
    · rintro ⟨y, h1, rfl⟩
      show toP r y ∈ [toP r x]
      rw [List.mem_singleton.mp h1]
      exact List.mem_singleton.mpr rfl
  | j + 1, z => by
    constructor
    · rintro ⟨s, h1, h2⟩
      obtain ⟨y, h3, rfl⟩ := (rn_fold hx j).mp h1
      obtain ⟨t, ht, e⟩ := (nxt_fold g (rn_Sx g hx j h3)).mp h2
      exact ⟨t, ⟨y, h3, ht⟩, e⟩
    · rintro ⟨y, ⟨s, h1, h2⟩, e⟩
      exact ⟨toP r s, (rn_fold hx j).mpr ⟨s, h1, rfl⟩, (nxt_fold g (rn_Sx g hx j h1)).mpr ⟨y, h2, e⟩⟩
theorem ah_Sx {x y : Int} (hx : x ∈ Sx r) {gap : Option Int} (h : y ∈ aheadS r.1 x gap) : y ∈ Sx r := by
  obtain ⟨j, hj⟩ := ah_plus (r := r) h
  exact rn_Sx g hx _ hj
theorem from_Sx {y : Int} {gap : Option Int} (h : y ∈ fromS r.1 gap) : y ∈ Sx r := by
  rcases from_plus (r := r) h with e | ⟨j, hj⟩
  · rw [e]; exact Sx_zero g.n
  · exact rn_Sx g (Sx_zero g.n) _ hj
theorem ah_fold {x : Int} (hx : x ∈ Sx r) {gap : Option Int} {z : Int} : z ∈ aheadS (foldR r).1 (toP r x) gap ↔ ∃ y ∈ aheadS r.1 x gap, toP r y = z := by
  have h1 := (wide_mem (ns := (foldR r).1) (a := []) (b := [toP r x]) (most gap + 1).toNat z).1
  refine h1.trans ?_
  constructor
  · rintro (h | ⟨j, j1, j2, hj⟩)
    · cases h
    · obtain ⟨y, hy, e⟩ := (rn_fold g hx j).mp hj
      exact ⟨y, (wide_mem (ns := r.1) (a := []) (b := [x]) (most gap + 1).toNat y).1.mpr (.inr ⟨j, j1, j2, hy⟩), e⟩
  · rintro ⟨y, hy, e⟩
    rcases (wide_mem (ns := r.1) (a := []) (b := [x]) (most gap + 1).toNat y).1.mp hy with h | ⟨j, j1, j2, hj⟩
    · cases h
    · exact .inr ⟨j, j1, j2, (rn_fold g hx j).mpr ⟨y, hj, e⟩⟩
theorem from_fold {gap : Option Int} {z : Int} : z ∈ fromS (foldR r).1 gap ↔ ∃ y ∈ fromS r.1 gap, toP r y = z := by
  have h0 := Sx_zero g.n
  have e0 := p_zero g
  have h1 := (wide_mem (ns := (foldR r).1) (a := [0]) (b := [0]) (most gap).toNat z).1
  refine h1.trans ?_
  have rf := fun j z => rn_fold (r := r) g h0 j (z := z)
  rw [e0] at rf
  constructor
  · rintro (h | ⟨j, j1, j2, hj⟩)
    · exact ⟨0, zero_from r gap, by rw [e0, List.mem_singleton.mp h]⟩
    · obtain ⟨y, hy, e⟩ := (rf j z).mp hj
      exact ⟨y, (wide_mem (ns := r.1) (a := [0]) (b := [0]) (most gap).toNat y).1.mpr (.inr ⟨j, j1, j2, hy⟩), e⟩
  · rintro ⟨y, hy, e⟩
    rcases (wide_mem (ns := r.1) (a := [0]) (b := [0]) (most gap).toNat y).1.mp hy with h | ⟨j, j1, j2, hj⟩
    · rw [List.mem_singleton.mp h, e0] at e
      exact .inl (List.mem_singleton.mpr e.symm)
    · exact .inr ⟨j, j1, j2, (rf j z).mpr ⟨y, hj, e⟩⟩
theorem ch_fold {gap : Option Int} : ∀ {f : List Int} {x : Int}, x ∈ Sx r → (Ch (Ah (foldR r) gap) (foldR r).2 (toP r x) f ↔ Ch (Ah r gap) r.2 x f)
  | [], _, _ => Iff.rfl
  | p :: f, x, hx => by
    constructor
    · rintro ⟨z, h1, h2, h3⟩
      obtain ⟨y, hy, rfl⟩ := (ah_fold g hx).mp h1
      have ys := ah_Sx g hx hy
      exact ⟨y, hy, by rw [← pic_fold g ys]; exact h2, (ch_fold ys).mp h3⟩
    · rintro ⟨y, h1, h2, h3⟩
      have ys := ah_Sx g hx h1
      exact ⟨toP r y, (ah_fold g hx).mpr ⟨y, h1, rfl⟩, by rw [pic_fold g ys]; exact h2, (ch_fold ys).mpr h3⟩
theorem can_fold (gap : Option Int) (f : List Int) : canR r gap f = canR (foldR r) gap f := by
  cases f with
  | nil => rfl
  | cons p f =>
    rw [Bool.eq_iff_iff, can_iff, can_iff]
    constructor
    · rintro ⟨y, h1, h2, h3⟩
      have ys := from_Sx g h1
      exact ⟨toP r y, (from_fold g).mpr ⟨y, h1, rfl⟩, by rw [pic_fold g ys]; exact h2, (ch_fold g ys).mpr h3⟩
    · rintro ⟨z, h1, h2, h3⟩
      obtain ⟨y, hy, rfl⟩ := (from_fold g).mp h1
      have ys := from_Sx g hy
      exact ⟨y, hy, by rw [← pic_fold g ys]; exact h2, (ch_fold g ys).mp h3⟩
theorem part_fold (gap : Option Int) : partP false r (foldR r) gap = none := by
  rw [part_same g (fold_good g) gap]
  exact (none_iff g (fold_good g) gap).mpr (can_fold g gap)
end
/-! ### what comes out comes out -/
section
variable {one other : Reel} (g1 : GoodR one.1 one.2) (g2 : GoodR other.1 other.2) {gap : Option Int}
include g1 g2
def toPP (one other : Reel) (p : Pr) : Pr := (toP one p.1, toP other p.2)
theorem pairs_fold {as bs as' bs' : List Int} (sa : ∀ x ∈ as, x ∈ Sx one) (sb : ∀ x ∈ bs, x ∈ Sx other) (ha : ∀ z, z ∈ as' ↔ ∃ y ∈ as, toP one y = z) (hb : ∀ z, z ∈ bs' ↔ ∃ y ∈ bs, toP other y = z) {q : Pr} :
    q ∈ pairsP (foldR one) (foldR other) as' bs' ↔ ∃ p ∈ pairsP one other as bs, toPP one other p = q := by
  rw [mem_pairs, ha, hb]
  constructor
  · rintro ⟨⟨x, hx, e1⟩, ⟨y, hy, e2⟩, e⟩
    rw [← e1, ← e2, pic_fold g1 (sa x hx), pic_fold g2 (sb y hy)] at e
    exact ⟨(x, y), mem_pairs.mpr ⟨hx, hy, e⟩, Prod.ext e1 e2⟩
  · rintro ⟨p, hp, rfl⟩
    obtain ⟨h1, h2, h3⟩ := mem_pairs.mp hp
    refine ⟨⟨p.1, h1, rfl⟩, ⟨p.2, h2, rfl⟩, ?_⟩
    show pic _ (toP one p.1) = pic _ (toP other p.2)
    rw [pic_fold g1 (sa _ h1), pic_fold g2 (sb _ h2), h3]
theorem first_fold {q : Pr} : q ∈ firstP (foldR one) (foldR other) gap ↔ ∃ p ∈ firstP one other gap, toPP one other p = q :=
  pairs_fold g1 g2 (fun x h => from_Sx g1 h) (fun x h => from_Sx g2 h) (fun z => from_fold g1) (fun z => from_fold g2)
theorem next_fold {p q : Pr} (h1 : p.1 ∈ Sx one) (h2 : p.2 ∈ Sx other) : q ∈ nextP (foldR one) (foldR other) gap (toPP one other p) ↔ ∃ t ∈ nextP one other gap p, toPP one other t = q :=
  pairs_fold g1 g2 (fun x h => ah_Sx g1 h1 h) (fun x h => ah_Sx g2 h2 h) (fun z => ah_fold g1 h1) (fun z => ah_fold g2 h2)
theorem lp_fold : ∀ (n : Nat) {p : Pr}, p.1 ∈ Sx one → p.2 ∈ Sx other → (LP (nextP (foldR one) (foldR other) gap) n (toPP one other p) ↔ LP (nextP one other gap) n p)
  | 0, _, _, _ => Iff.rfl
  | n + 1, p, h1, h2 => by
    constructor
    · rintro ⟨q, hq, hl⟩
      obtain ⟨t, ht, rfl⟩ := (next_fold g1 g2 h1 h2).mp hq
      obtain ⟨m1, m2, _⟩ := mem_pairs.mp ht
      exact ⟨t, ht, (lp_fold n (ah_Sx g1 h1 m1) (ah_Sx g2 h2 m2)).mp hl⟩
    · rintro ⟨t, ht, hl⟩
      obtain ⟨m1, m2, _⟩ := mem_pairs.mp ht
      exact ⟨toPP one other t, (next_fold g1 g2 h1 h2).mpr ⟨t, ht, rfl⟩, (lp_fold n (ah_Sx g1 h1 m1) (ah_Sx g2 h2 m2)).mpr hl⟩
theorem open_fold (n : Nat) : openN (nextP (foldR one) (foldR other) gap) (firstP (foldR one) (foldR other) gap) n ↔ openN (nextP one other gap) (firstP one other gap) n := by
  unfold openN
  refine or_congr Iff.rfl ?_
  constructor
  · rintro ⟨q, hq, hl⟩
    obtain ⟨p, hp, rfl⟩ := (first_fold g1 g2).mp hq
    obtain ⟨m1, m2, _⟩ := mem_pairs.mp hp
    exact ⟨p, hp, (lp_fold g1 g2 _ (from_Sx g1 m1) (from_Sx g2 m2)).mp hl⟩
  · rintro ⟨p, hp, hl⟩
    obtain ⟨m1, m2, _⟩ := mem_pairs.mp hp
    exact ⟨toPP one other p, (first_fold g1 g2).mpr ⟨p, hp, rfl⟩, (lp_fold g1 g2 _ (from_Sx g1 m1) (from_Sx g2 m2)).mpr hl⟩
theorem out_fold : (outG (foldR one) (foldR other) gap).isSome = (outG one other gap).isSome := by
  obtain ⟨w1, w2⟩ := webP_ok g1.n g2.n gap
  obtain ⟨v1, v2⟩ := webP_ok (fold_good g1).n (fold_good g2).n gap
  obtain ⟨a1, a2⟩ := outP_ok w1 w2
  obtain ⟨b1, b2⟩ := outP_ok v1 v2
  cases e : outG one other gap with
  | none =>
    cases e2 : outG (foldR one) (foldR other) gap with
    | none => rfl
    | some L =>
      obtain ⟨h0, h1⟩ := b2 L e2
      have := (h1 (L.toNat + 1)).mp ((open_fold g1 g2 _).mpr (a1 e _))
      omega
  | some L =>
    cases e2 : outG (foldR one) (foldR other) gap with
    | some _ => rfl
    | none =>
      obtain ⟨h0, h1⟩ := a2 L e
      have := (h1 (L.toNat + 1)).mp ((open_fold g1 g2 _).mp (b1 e2 _))
      omega
end
/-! ### folded twice is folded once -/
section
variable {r : Reel} (g : GoodR r.1 r.2)
include g
theorem Sx_fold : Sx (foldR r) = upToN (lotsS r).length := by
  have gf := fold_good g
  refine lt_ext (Sx_ok gf.n).up (upToN_up _) fun z => ⟨fun h => ?_, fun h => ?_⟩
  · have h1 := Sx_rg gf.n h
    have e : (foldR r).1.length = (lotsS r).length := List.length_map ..
    rw [e] at h1
    exact upTo_mem h1
  · obtain ⟨x, hx, rfl⟩ := p_onto (r := r) (upTo_rg h)
    obtain ⟨j, hj⟩ := (Sx_iff g.n).mp hx
    have h2 := (rn_fold g (Sx_zero g.n) j).mpr ⟨x, hj, rfl⟩
    rw [p_zero g] at h2
    exact (Sx_iff gf.n).mpr ⟨j, h2⟩
theorem BB_fold {x y : Int} (hx : x ∈ Sx r) (hy : y ∈ Sx r) (h : BB (foldR r) (toP r x) (toP r y)) : toP r x = toP r y := by
  have gf := fold_good g
  have ps : ∀ {x}, x ∈ Sx r → toP r x ∈ Sx (foldR r) := fun hx => by rw [Sx_fold g]; exact upTo_mem (p_rg g hx)
  refine (p_iff g hx hy).mpr ((hS_iff g hx hy).mpr (BB.of (R := fun x y => x ∈ Sx r ∧ y ∈ Sx r ∧ BB (foldR r) (toP r x) (toP r y)) (fun x y ⟨hx, hy, h⟩ => ?_) ⟨hx, hy, h⟩))
  obtain ⟨h1, h2, h3⟩ := BB_step gf (ps hx) (ps hy) h
  rw [pic_fold g hx, pic_fold g hy] at h1
  refine ⟨h1, fun a ha => ?_, fun b hb => ?_⟩
  · obtain ⟨z, hz, e⟩ := h2 (toP r a) ((nxt_fold g hx).mpr ⟨a, ha, rfl⟩)
    obtain ⟨b, hb, rfl⟩ := (nxt_fold g hy).mp hz
    exact ⟨b, hb, Sx_next g.n hx ha, Sx_next g.n hy hb, e⟩
  · obtain ⟨z, hz, e⟩ := h3 (toP r b) ((nxt_fold g hy).mpr ⟨b, hb, rfl⟩)
    obtain ⟨a, ha, rfl⟩ := (nxt_fold g hx).mp hz
    exact ⟨a, ha, Sx_next g.n hx ha, Sx_next g.n hy hb, e⟩
theorem hS_fold {z : Int} (hz : z ∈ Sx (foldR r)) : hS (foldR r) z = z := by
  have gf := fold_good g
  have h1 := hS_mem gf hz
  have h2 := hS_BB gf hz
  have on : ∀ {z}, z ∈ Sx (foldR r) → ∃ x ∈ Sx r, toP r x = z := fun h => p_onto (upTo_rg (by rw [← Sx_fold g]; exact h))
  obtain ⟨x, hx, e1⟩ := on h1
  obtain ⟨y, hy, e2⟩ := on hz
  rw [← e1, ← e2] at h2
  have := BB_fold g hx hy h2
  rw [e1, e2] at this
  exact this
theorem lots_fold : lotsS (foldR r) = upToN (lotsS r).length := by
  rw [lots_eq, List.map_congr_left (g := fun z => z) fun z hz => hS_fold g hz, List.map_id', Sx_fold g]
  exact lt_ext (ssetI_ord _) (upToN_up _) fun k => mem_ssetI
theorem p_fold {z : Int} (hz : z ∈ Sx (foldR r)) : toP (foldR r) z = z := by
  have h1 := upTo_rg (by rw [← Sx_fold g]; exact hz : z ∈ upToN (lotsS r).length)
  have h2 : (upToN (lotsS r).length)[z.toNat]? = some z := by
    unfold upToN
    rw [List.getElem?_map, List.getElem?_range (by omega)]
    show some (0 + ((z.toNat : Nat) : Int)) = _
    congr 1
    omega
  unfold toP
  rw [hS_fold g hz, lots_fold g, posI_nth ((upToN_up _).imp fun h => by omega) h2]
  omega
theorem fold_fold : foldR (foldR r) = foldR r := by
  have gf := fold_good g
  have l1 : (foldR r).1.length = (lotsS r).length := List.length_map ..
  have l2 : (foldR r).2.length = (lotsS r).length := List.length_map ..
  refine Prod.ext ?_ ?_
  · show (lotsS (foldR r)).map (fun h => ssetI (rowS (foldR r) h)) = _
    refine Eq.trans ?_ (map_at (foldR r).1 [])
    rw [lots_fold g, l1]
    apply List.map_congr_left
    intro h hh
    have hh2 : h ∈ Sx (foldR r) := by rw [Sx_fold g]; exact hh
    show _ = nxt (foldR r).1 h
    refine lt_ext (ssetI_ord _) (gf.n.up _ (nxt_mem (Sx_rg gf.n hh2))) fun z => ?_
    have rm := row_mem gf hh2 (z := z)
    rw [hS_fold g hh2] at rm
    rw [mem_ssetI, rm]
    constructor
    · rintro ⟨t, ht, rfl⟩
      rw [p_fold g (Sx_next gf.n hh2 ht)]
      exact ht
    · intro ht
      exact ⟨z, ht, p_fold g (Sx_next gf.n hh2 ht)⟩
  · show (lotsS (foldR r)).map (pic (foldR r).2) = _
    refine Eq.trans ?_ (map_at (foldR r).2 0)
    rw [lots_fold g, l2] <;> rfl
end
end K63

set_option Elab.async false
set_option linter.all false
set_option maxRecDepth 100000
set_option maxHeartbeats 4000000
/-! DlIm: dicts from ints to ints that stay as they are, sets of ints, a list's index, dict(pairs), dict comprehensions of one clause. -/
namespace Dl
open PySem PySem.Spec PyProof.Rows L2
abbrev IK : Type := List (Int × Int)
def ivs (kvs : IK) : List (Key × V) := kvs.map fun p => (Sum.inl p.1, V.int p.2)
def ids (kvs : IK) : List (Key × Dt) := kvs.map fun p => (Sum.inl p.1, Dt.int p.2)
/-- a locked dict -/
def imA (kvs : IK) : AbsO where
  φ := fun a F => ∃ od, F a = some (.frz od (.dK (ivs kvs)))
  mono := fun s ⟨od, h⟩ => ⟨od, s _ _ h⟩
/-- a set -/
def setA (w : World) (ns : List Int) : AbsO where
  φ := fun a F => ∃ S n, F a = some (SetO w a S n) ∧ n < 64 ∧ ∀ k, S k = true ↔ k ∈ ns
  mono := fun s ⟨S, n, h, r⟩ => ⟨S, n, s _ _ h, r⟩
theorem KvD.ints {K : PySem.W.Frag} {F : Hp} {fi : List Addr} : ∀ {kvs : IK} {xs : List (Key × V)}, KvD K F fi xs (ids kvs) → xs = ivs kvs
  | [], _, .nil => rfl
  | p :: r, _, .cons h t => by
    cases h
    rw [KvD.ints (kvs := r) t]
    rfl
theorem getA_ids {kvs : IK} {k v : Int} (h : getA (ids kvs) (.inl k) = some (.int v)) : valV (ivs kvs) (Sum.inl k) = some (.int v) := by
  induction kvs with
  | nil => cases h
  | cons p r ih =>
    have h : getA ((Sum.inl p.1, Dt.int p.2) :: ids r) (.inl k) = some (.int v) := h
    rw [getA_cons] at h
    show valV ((Sum.inl p.1, V.int p.2) :: ivs r) (Sum.inl k) = _
    unfold valV
    by_cases e : (Sum.inl p.1 : Key) = .inl k
    · rw [if_pos e] at h
      simp only [e, List.find?_cons, decide_true]
      cases h
      rfl
    · rw [if_neg e] at h
      simp only [List.find?_cons, decide_eq_false e]
      exact ih h
section
variable {T : Tbs} {X : Cx} {G : List Cell} {mu mu1 mu2 : List Dt} {e o a b kx tg : Expr} {r r1 r2 : Res} {pos p q1 apos : Pos}
/-- a new dict is locked -/
theorem ev_lockI {kvs : IK} (h : EvD T X G mu e (.new (dicK (ids kvs))) mu1) : EvD T X G mu e (.dat (.abs (imA kvs))) mu1 := by
  refine ⟨fun pins s sg H Q I ⟨B, F, fi, e0, hq⟩ => ?_⟩
  refine thn (h.run pins s sg H (fun v H1 => ∃ F1 fi1, Sub F F1 ∧ fi <+: fi1 ∧ DE X.K T B F1 fi1 sg H1 G mu1 ∧ RpR X.K B F1 fi1 sg H1 G v (.new (dicK (ids kvs)))) I ⟨B, F, fi, e0, fun v F1 fi1 H1 a1 a2 a3 a4 => ⟨F1, fi1, a1, a2, a3, a4⟩⟩) fun u s1 ⟨v, H1, I1, r1, F1, fi1, a1, a2, a3, a4⟩ => ?_
  obtain ⟨d, rfl, n1, ho, n4, n5, n6⟩ := a4
  obtain ⟨xs, g1, g2⟩ := ob_viewK ho
  have ex := g2.ints
  subst ex
  obtain ⟨od, I2⟩ := I1.lock g1 trivial
  have e2 := a3.touchO (.frz od (.dK (ivs kvs))) n1 n6 n4 n5 (a3.tabne g1 fun q z => by cases z)
  have e3 := e2.grow upd_same n1 n6 (fun q z => by cases z) n4 n5
  exact ⟨.ref d, _, I2, r1, hq _ _ fi1 _ (a1.trans (Sub.new n1)) a2 e3 (.abs ⟨od, upd_same⟩)⟩
/-- d[k] -/
theorem ev_imget {kvs : IK} {k v : Int} (hu : X.A.units + 1 < cLine) (ho : EvD T X G mu o (.dat (.abs (imA kvs))) mu1) (hk : EvD T X G mu1 kx (.dat (.int k)) mu2) (hd : getA (ids kvs) (.inl k) = some (.int v)) (hs : NoSl kx := by exact fun _ _ => rfl) :
    EvD T X G mu (.Subscript o kx pos) (.dat (.int v)) mu2 := by
  refine pe_imp (pe_dget hu ho hk hs) fun sg H Q ⟨B, F, fi, e, q⟩ => ⟨B, F, fi, e, fun x F1 fi1 H1 s1 p1 e1 h1 => ⟨B, F1, fi1, e1, fun y F3 fi3 H3 s3 p3 e3 h3 => ?_⟩⟩
  cases h1 with
  | abs hφ =>
    obtain ⟨od, g1⟩ := hφ
    cases h3
    exact ⟨_, .int v, rfl, .inl ⟨ivs kvs, .inl k, .inr ⟨od, e3.sub _ _ (s3 _ _ g1)⟩, rfl, (getA_ids hd).symm⟩, q _ F3 fi3 H3 (s1.trans s3) (p1.trans p3) e3 (.int v)⟩
/-- its keys, walked -/
theorem ei_imkeys {kvs : IK} (h : EvD T X G mu e (.dat (.abs (imA kvs))) mu1) : EvI T X G mu tg e (kvs.map fun p => Dt.int p.1) mu1 := by
  refine pi_imp (pi_keys h) fun sg H R ⟨B, F, fi, e, q⟩ => ⟨B, F, fi, e, fun v F1 fi1 H1 s1 p1 e1 h1 => ?_⟩
  cases h1 with
  | abs hφ =>
    obtain ⟨od, g1⟩ := hφ
    refine ⟨_, od, rfl, .inl ⟨ivs kvs, e1.sub _ _ g1, q F1 fi1 H1 _ s1 p1 e1 ⟨fun i d H s hi => ?_, fun H s => ⟨s _ _ g1, by
      unfold ivs
      rw [List.length_map, List.length_map]
      exact Nat.le_refl _⟩⟩⟩⟩
    rw [List.getElem?_map] at hi
    cases hk : kvs[i]? with
    | none => rw [hk] at hi; cases hi
    | some kv =>
      rw [hk] at hi
      cases hi
      have hv : (ivs kvs)[i]? = some (Sum.inl kv.1, V.int kv.2) := by
        unfold ivs
        rw [List.getElem?_map, hk] <;> rfl
      refine ⟨⟨s _ _ g1, (List.getElem?_eq_some_iff.mp hv).1⟩, fun x H' ⟨y1, k, v, y2, y3⟩ => .inl ⟨y1, ?_⟩⟩
      rw [hv] at y2
      cases y2
      rw [y3]
      exact .int _
/-- what two dicts of the same keys tell -/
def imEq (f g : IK) : Bool := f.all fun p => match getA (ids g) (.inl p.1) with | some (.int v) => p.2 == v | _ => false
theorem hits_int {A : Around} {s : Shared} {g : IK} {vb : List (Key × Value)} (rb : KV (ivs g) vb) : ∀ {f : IK} {va : List (Key × Value)}, KV (ivs f) va → (∀ p ∈ f, ∃ v, getA (ids g) (.inl p.1) = some (.int v)) → PySem.W.KeqHits A s vb va (imEq f g) := by
  intro f
  induction f with
  | nil =>
    intro va ra _
    unfold KV at ra
    cases ra
    exact .nil
  | cons p f ih =>
    intro va ra hk
    unfold KV at ra
    have ra : Paired _ ((Sum.inl p.1, V.int p.2) :: ivs f) va := ra
    cases ra with
    | @cons _ q _ qs h t =>
      obtain ⟨h1, h2⟩ := h
      obtain ⟨v, hv⟩ := hk p List.mem_cons_self
      have rr : RelO (some (V.int v)) (valueAt vb (Sum.inl p.1)) := by rw [← getA_ids hv]; exact rb.val _
      obtain ⟨y, hy, ry⟩ := rr.some_of
      obtain ⟨k, u⟩ := q
      have h1 : (Sum.inl p.1 : Key) = k := h1
      subst h1
      obtain ⟨t1, rfl⟩ := ry
      have h2 : RelV (V.int p.2) u := h2
      obtain ⟨t2, rfl⟩ := h2
      have ee : imEq (p :: f) g = ((p.2 == v) && imEq f g) := by
        show ((match getA (ids g) (.inl p.1) with | some (.int v) => p.2 == v | _ => false) && imEq f g) = _
        rw [hv]
      rw [ee]
      exact .hit hy ((PySem.MeetsSeq.EqGives.int _ _ _ _).at _ _) (ih t fun p' hp' => hk p' (List.mem_cons_of_mem _ hp'))
theorem op_eqIm (hu : X.A.units < cLine) : OpR X (compareOp .Eq) (fun x y H Q => ∃ a b f g oa ob, x = .ref a ∧ y = .ref b ∧ H a = some (.frz oa (.dK (ivs f))) ∧ H b = some (.frz ob (.dK (ivs g))) ∧ f.length = g.length ∧ (∀ p ∈ f, ∃ v, getA (ids g) (.inl p.1) = some (.int v)) ∧ Q (.bl (imEq f g)) H) := by
  intro pins s σ H x y v u Q I rx ry h
  obtain ⟨a, b, f, g, oa, ob, rfl, rfl, ea, eb, hl, hk, q⟩ := h
  obtain rfl : v = Value.ref a := rx
  obtain rfl : u = Value.ref b := ry
  obtain ⟨_, _, ya, va, ra, da⟩ := (show ObjOk X.prog X.w H s.heap a (.frz oa (.dK (ivs f))) from I.hok a _ ea)
  obtain ⟨_, _, yb, vb, rb, db⟩ := (show ObjOk X.prog X.w H s.heap b (.frz ob (.dK (ivs g))) from I.hok b _ eb)
  have l1 : (ivs f).length = (ivs g).length := by
    unfold ivs
    rw [List.length_map, List.length_map]
    exact hl
  have hl2 : va.length = vb.length := by rw [← ra.length, ← rb.length]; exact l1
  exact PySem.W.keq_eq (knd := mixKind X.prog X.w) (r := imEq f g) ya yb da db hu (fun _ => hits_int rb ra hk) (fin_bl I q (by simp [hl2]))
theorem ev_imeq {f g : IK} (hu : X.A.units < cLine) (ha : EvD T X G mu a (.dat (.abs (imA f))) mu1) (hb : EvD T X G mu1 b (.dat (.abs (imA g))) mu2) (hl : f.length = g.length) (hk : ∀ p ∈ f, ∃ v, getA (ids g) (.inl p.1) = some (.int v)) : EvD T X G mu (.Compare a [.Eq] [b] pos) (.dat (.bl (imEq f g))) mu2 :=
  ev_cmp (op_eqIm hu) (op2_val (d1 := .abs (imA f)) (d2 := .abs (imA g)) rfl rfl fun F fi H v u Q s h1 h2 q => by
    rcases h1 with h1 | ⟨_, _, h1⟩
    · rcases h2 with h2 | ⟨_, _, h2⟩
      · cases h1 with
        | abs k1 => cases h2 with
          | abs k2 =>
            obtain ⟨oa, k1⟩ := k1
            obtain ⟨ob, k2⟩ := k2
            exact ⟨_, _, f, g, oa, ob, rfl, rfl, s _ _ k1, s _ _ k2, hl, hk, q _ (.bl _)⟩
      · exact h2.elim
    · exact h1.elim) (nomark _) ha hb
/-! ### sets -/
def rSetI (w : World) (K : PySem.W.Frag) : List V → Hp → VK → Prop := fun vs H Q => ∃ (a : Addr) (ns : List Int), vs = [V.ref a] ∧ SqL K H a (ns.map V.int) ∧ ns.length < 64 ∧ ∀ p S n, H p = none → n < 64 → (∀ k, S k = true ↔ k ∈ ns) → Q (.ref p) (upd H p (SetO w p S n))
theorem cr_setI (hc : X.calm = true) : CallR X (.type "set") (rSetI X.w X.K) := by
  intro pins s σ H xs us Q I r h
  obtain ⟨a, ns, rfl, hq, h64, q⟩ := h
  rw [Vals.ref1 r]
  obtain ⟨its, r, pl, hz⟩ := I.list hq
  refine call_set_ints ns (I.ok.hd hc) pl.isList (by simpa using r.ints) (by unfold scanBound; omega) fun h' tk c hcn hS hk => ?_
  exact ⟨.ref _, _, I.laid (t' := tk) (o := SetO X.w s.heap.objs.size (memB ns ns.length) c) hk (Nat.le_refl _) (setO_new hS), rfl, q _ _ _ (I.hok.fresh (Nat.le_refl _)) (by omega) fun k => by
    unfold memB
    rw [List.take_length, List.any_eq_true]
    constructor
    · rintro ⟨x, hx, e⟩
      rw [← beq_iff_eq.mp e]
      exact hx
    · intro hx
      exact ⟨k, hx, beq_iff_eq.mpr rfl⟩⟩
/-- set(xs) -/
theorem ev_setI {ns : List Int} (hc : X.calm = true) (h : EvD T X G mu e r mu1) (hm : X.mg "set" = none) (h64 : ns.length < 64) (l : look G r = some (.lst (ns.map Dt.int))) (hg : Gl X "set" := by rfl) (he : starEach [e] X.env = (false, eval e X.env) :: starEach [] X.env := by rfl) :
    EvD T X G mu (.Call (.Name "set" p) [e] [] pos) (.dat (.abs (setA X.w ns))) mu1 := by
  refine ev_Ty (cr_setI hc) (fun B F fi sg H vs Q e m q => ?_) (ea_cons h ea_nil he) hm PyProof.Rows.boot_set hg (by decide) (by decide) he
  cases m with
  | cons m1 m2 =>
    cases m2
    obtain ⟨a, vs, rfl, f2, m⟩ := (e.viewH m1 l).lst e.sub
    rw [m.ints] at f2
    refine ⟨a, ns, rfl, SqL.of f2, h64, fun p S n hp hn hS => ?_⟩
    obtain ⟨s2, e2⟩ := e.newE (o := SetO X.w p S n) hp (fun q z => by unfold SetO at z; cases z)
    exact q _ _ fi _ s2 (List.prefix_refl _) e2 (.abs ⟨S, n, upd_same, hn, hS⟩)
/-- sorted(set) -/
theorem ev_sortA {ns : List Int} (hc : X.calm = true) (h : EvD T X G mu e (.dat (.abs (setA X.w ns))) mu1) (hm : X.mg "sorted" = none) (hg : Gl X "sorted" := by rfl) (he : starEach [e] X.env = (false, eval e X.env) :: starEach [] X.env := by rfl) :
    EvD T X G mu (.Call (.Name "sorted" p) [e] [] pos) (.new (.lst ((ssetI ns).map Dt.int))) mu1 := by
  refine ev_B (cr_sortedSet hc) (fun B F fi sg H vs Q e m q => ?_) (ea_cons h ea_nil he) hm PyProof.Rows.boot_sorted hg (by decide) (by decide) he
  cases m with
  | cons m1 m2 =>
    cases m2
    have m1 : Rp X.K F fi _ (.abs (setA X.w ns)) := m1
    cases m1 with
    | abs hφ =>
      obtain ⟨S, n, g1, g2, g3⟩ := hφ
      refine ⟨_, S, n, rfl, e.sub _ _ g1, g2, fun ms p h1 h2 h3 hp => ?_⟩
      have em : ms = ssetI ns := lt_ext h1 (ssetI_ord ns) fun k => by rw [h2, g3, mem_ssetI]
      rw [em]
      obtain ⟨e3, k3⟩ := e.newL hp (RpL.of_ints (ssetI ns))
      exact q _ F fi _ (Sub.refl F) (List.prefix_refl _) e3 k3
/-! ### xs.index(y) -/
theorem ev_index {ns : List Int} {y : Int} {j : Nat} (ha : EvD T X G mu a (.dat (.lst (ns.map Dt.int))) mu1) (hb : EvD T X G mu1 b (.dat (.int y)) mu2) (hj : ns[j]? = some y) (hn : ∀ m, m < j → ns[m]? ≠ some y)
    (hbase : attributeBase a "index" X.env (eval a X.env) = eval a X.env := by rfl)
    (hfew : ((backTo pos (starEach [b] X.env)).all (fun x => !x.1) && (backToKw pos (keywordEach [] X.env)).all (fun x => x.1.isSome) && decide ([b].length + ([] : List Keyword).length + (if ([] : List Keyword).isEmpty then 0 else 1) < 30)) = true := by rfl)
    (hline : (apos.endLine == pos.line) = true := by rfl) (hs : starEach [b] X.env = (false, eval b X.env) :: starEach [] X.env := by rfl) (hplain : (backTo pos (starEach [] X.env)).any (·.1) = false := by rfl) :
    EvD T X G mu (.Call (.Attribute a "index" apos) [b] [] pos) (.dat (.int (j : Nat))) mu2 := by
  refine pe_imp (pe_bm PySem.F.plainAttrs_list PySem.F.slot_list_index PySem.F.type_list_index mt_index ha (ea_cons hb ea_nil hs) hbase hfew hline hs hplain) fun sg H Q ⟨B, F, fi, e, q⟩ => ?_
  refine ⟨B, F, fi, e, fun v F1 fi1 H1 s1 p1 e1 h1 => ?_⟩
  cases h1 with
  | lst g1 g2 =>
    have ei := g2.ints
    subst ei
    refine ⟨.inl ⟨rfl, _, SqL.of (e1.sub _ _ g1)⟩, B, F1, fi1, e1, fun us F2 fi2 H2 s2 p2 e2 h2 => ?_⟩
    cases h2 with
    | cons hu hnl =>
      cases hnl
      have hu : Rp X.K F2 fi2 _ (.int y) := hu
      cases hu
      refine ⟨_, ns.map V.int, .int y, j, .int y, rfl, rfl, SqL.of (e2.sub _ _ (s2 _ _ g1)), rfl, ?_, ?_, ?_, fun m z' hm hz => ?_, q _ F2 fi2 H2 (s1.trans s2) (p1.trans p2) e2 (.int _)⟩
      · rw [List.all_eq_true]
        intro z hz
        obtain ⟨i, _, rfl⟩ := List.mem_map.mp hz
        rfl
      · rw [List.getElem?_map, hj] <;> rfl
      · show (y == y) = true
        simp
      · rw [List.getElem?_map] at hz
        cases hk : ns[m]? with
        | none => rw [hk] at hz; cases hz
        | some i =>
          rw [hk] at hz
          cases hz
          show (i == y) = false
          have : i ≠ y := fun z => hn m hm (by rw [hk, z])
          simpa using this
end
/-! ### dict(pairs) -/
theorem putK_end {kvs : List (Key × V)} {k : Key} {v : V} (h : k ∉ kvs.map (·.1)) : putK kvs k v = kvs ++ [(k, v)] := by
  unfold putK
  rw [if_neg]
  intro z
  obtain ⟨x, hx, e⟩ := List.any_eq_true.mp z
  exact h (List.mem_map.mpr ⟨x, hx, of_decide_eq_true e⟩)
theorem putA_end' {kvs : List (Key × Dt)} {k : Key} {v : Dt} (h : k ∉ kvs.map (·.1)) : putA kvs k v = kvs ++ [(k, v)] := by
  unfold putA
  rw [if_neg]
  intro z
  obtain ⟨x, hx, e⟩ := List.any_eq_true.mp z
  exact h (List.mem_map.mpr ⟨x, hx, of_decide_eq_true e⟩)
theorem merge_all : ∀ (more kvs : List (Key × V)), ((kvs ++ more).map (·.1)).Nodup → mergeK kvs more = kvs ++ more
  | [], kvs, _ => by
    show kvs = kvs ++ []
    rw [List.append_nil]
  | p :: more, kvs, h => by
    have h2 : ((kvs ++ [p] ++ more).map (·.1)).Nodup := by
      rw [List.append_assoc]
      exact h
    have hn : p.1 ∉ kvs.map (·.1) := by
      rw [List.map_append, List.map_cons] at h
      intro z
      exact (List.nodup_append.mp h).2.2 _ z _ List.mem_cons_self rfl
    show mergeK (putK kvs p.1 p.2) more = _
    rw [putK_end hn, merge_all more (kvs ++ [p]) h2, List.append_assoc] <;> rfl
section
variable {T : Tbs} {X : Cx} {G : List Cell} {mu mu1 : List Dt} {e : Expr} {r : Res} {pos p : Pos}
theorem pairs_in {K : PySem.W.Frag} {F H : Hp} {fi : List Addr} (s : Sub F H) : ∀ {kvs : IK} {vs : List V}, RpL K F fi vs (kvs.map fun p => .tup [.int p.1, .int p.2]) → ∃ ps : List Addr, vs = ps.map V.ref ∧ Paired (fun p (kv : Key × V) => SqT K H p [kV kv.1, kv.2]) ps (ivs kvs)
  | [], _, .nil => ⟨[], rfl, .nil⟩
  | q :: r, _, .cons h t => by
    obtain ⟨ps, e, hp⟩ := pairs_in (kvs := r) s t
    cases h with
    | tup g1 g2 =>
      cases g2 with
      | cons a1 g2 => cases g2 with
        | cons a2 g2 =>
          cases g2
          cases a1
          cases a2
          exact ⟨_ :: ps, by rw [e] <;> rfl, .cons (SqT.of (s _ _ g1)) hp⟩
theorem ev_dictP {kvs : IK} (hc : X.calm = true) (h : EvD T X G mu e r mu1) (hm : X.mg "dict" = none) (nd : (kvs.map (·.1)).Nodup) (l : look G r = some (.lst (kvs.map fun p => .tup [.int p.1, .int p.2]))) (hg : Gl X "dict" := by rfl) (he : starEach [e] X.env = (false, eval e X.env) :: starEach [] X.env := by rfl) :
    EvD T X G mu (.Call (.Name "dict" p) [e] [] pos) (.new (dicK (ids kvs))) mu1 := by
  refine ev_Ty (call_dictP hc) (fun B F fi sg H vs Q e m q => ?_) (ea_cons h ea_nil he) hm PyProof.Rows.boot_dict hg (by decide) (by decide) he
  cases m with
  | cons m1 m2 =>
    cases m2
    obtain ⟨a, vs, rfl, f2, m⟩ := (e.viewH m1 l).lst e.sub
    obtain ⟨ps, rfl, hp⟩ := pairs_in e.sub m
    refine ⟨a, ps, ivs kvs, rfl, SqL.of f2, hp, fun p hp => ?_⟩
    have nk : (([] ++ ivs kvs).map (fun q : Key × V => q.1)).Nodup := by
      rw [List.nil_append]
      unfold ivs
      rw [List.map_map]
      have : (kvs.map ((fun q : Key × V => q.1) ∘ fun p : Int × Int => ((Sum.inl p.1 : Key), V.int p.2))) = (kvs.map (·.1)).map Sum.inl := by rw [List.map_map] <;> rfl
      rw [this]
      exact List.Pairwise.map _ (fun a b h z => h (Sum.inl.inj z)) nd
    rw [merge_all _ _ nk, List.nil_append]
    have hk : DkO false p (.dK (ivs kvs)) ((ids kvs).map fun q : Key × Dt => keyD q.1) ((ivs kvs).map fun q : Key × V => kV q.1) ((ivs kvs).map (fun q : Key × V => q.2)) := by
      refine ⟨?_, rfl, rfl⟩
      unfold ids ivs
      rw [List.map_map, List.map_map] <;> rfl
    have r1 : RpL X.K F fi ((ivs kvs).map fun q : Key × V => kV q.1) ((ids kvs).map fun q : Key × Dt => keyD q.1) := by
      have k1 : ((ivs kvs).map fun q : Key × V => kV q.1) = (kvs.map (·.1)).map V.int := by
        unfold ivs
        rw [List.map_map, List.map_map] <;> rfl
      have k2 : ((ids kvs).map fun q : Key × Dt => keyD q.1) = (kvs.map (·.1)).map Dt.int := by
        unfold ids
        rw [List.map_map, List.map_map] <;> rfl
      rw [k1, k2]
      exact RpL.of_ints _
    have r2 : RpL X.K F fi ((ivs kvs).map (fun q : Key × V => q.2)) ((ids kvs).map (fun q : Key × Dt => q.2)) := by
      have k1 : (ivs kvs).map (fun q : Key × V => q.2) = (kvs.map (·.2)).map V.int := by
        unfold ivs
        rw [List.map_map, List.map_map] <;> rfl
      have k2 : (ids kvs).map (fun q : Key × Dt => q.2) = (kvs.map (·.2)).map Dt.int := by
        unfold ids
        rw [List.map_map, List.map_map] <;> rfl
      rw [k1, k2]
      exact RpL.of_ints _
    obtain ⟨e2, k2⟩ := e.newD hp hk r1 r2
    exact q _ F fi _ (Sub.refl F) (List.prefix_refl _) e2 k2
end
/-! ### {k: v for t in i} -/
section
variable {T : Tbs} {X : Cx} {G : List Cell} {mu mu1 : List Dt} {t0 i0 kx vx : Expr} {scope : Scope} {own : List (Str × Nat)} {pos : Pos} {ds : List Dt}
theorem d1_read {vs : List Nat} {rk : List (Key × Dt)} (hv : ∀ j ∈ vs, ∀ m, G[j]? ≠ some (.own m)) (ht : To1 T X scope vs (wipeC G vs) mu1 t0 kx vx ds [] rk) {sg : L2.St} {H : Hp} {Q : VK} (h : rd X.K T G mu (.new (dicK rk)) mu1 sg H Q) :
    tDc (rdI X.K T G mu ds mu1) (gU X scope t0) (tU X scope []) (eU X scope kx) (eU X scope vx) vs sg H Q := by
  obtain ⟨B, F, fi, e, q⟩ := h
  refine ⟨B, F, fi, e, fun F1 fi1 H1 J s1 p1 e1 fd D hD => ?_⟩
  refine ⟨fun i m H => m = ds.length - i ∧ i ≤ ds.length ∧ ∃ dn, To1 T X scope vs (wipeC G vs) mu1 t0 kx vx (ds.drop i) dn rk ∧ CD X.K T B (wipe sg vs) (wipeC G vs) D F1 fi1 dn mu1 H, ?_, ?_⟩
  · obtain ⟨e2, h2⟩ := (e1.wipe vs).newD hD (t := false) (u := .dK []) (ks := []) (ka := []) (vs := []) (ds := []) ⟨rfl, rfl, rfl⟩ .nil .nil
    exact ⟨_, rfl, Nat.zero_le _, [], ht, F1, fi1, Sub.refl F1, List.prefix_refl _, e2, h2⟩
  rintro i m H2 ⟨rfl, hi2, dn, hct, F2, fi2, s2, p2, e2, h2⟩
  by_cases hlt : i < ds.length
  · have hd : ds[i]? = some ds[i] := List.getElem?_eq_getElem hlt
    rw [List.drop_eq_getElem_cons hlt] at hct
    obtain ⟨g1, g2⟩ := fd.go i ds[i] H2 (s2.trans e2.sub) hd
    refine .inr ⟨g1, fun H' => ∃ dn, To1 T X scope vs (wipeC G vs) mu1 t0 kx vx (ds.drop (i + 1)) dn rk ∧ CD X.K T B (wipe sg vs) (wipeC G vs) D F1 fi1 dn mu1 H', fun H' hH => ⟨ds.length - (i + 1), by omega, rfl, hlt, hH⟩, fun x H3 hy => ?_⟩
    obtain ⟨F3, s3, e3, h3, n3⟩ := Yl.at2 e2 ((g2 x H3 hy).mono s2 p2) h2
    cases hct with
    | take hg1 hix hw1 hk1 hv1 hlen hrest =>
      rename_i v key G' ix
      refine ⟨_, hg1, _, F3, fi2, e3.now, h3, fun F4 fi4 sg4 H4 s4 p4 e4 b4 => ⟨(wipe_but b4 hix).trans wipe_wipe, rdT X.K T G' mu1 true mu1, (fun s H C cl fp => ets_nil), _, F4, fi4, e4, fun F5 fi5 H5 s5 p5 e5 => ?_⟩⟩
      show if true = true then _ else _
      rw [if_pos rfl]
      refine ⟨_, hk1, _, F5, fi5, e5, fun y F6 fi6 H6 s6 p6 e6 h6 => ⟨_, hv1, _, F6, fi6, e6, fun z F7 fi7 H7 s7 p7 e7 h7 => ?_⟩⟩
      obtain ⟨d1, d2⟩ := dict_fin e3 n3 e7 (((s4.trans s5).trans s6).trans s7) (((p4.trans p5).trans p6).trans p7) (home_of e7 b4 hix hw1)
      have hyk : y = kV key := by
        cases key <;> (cases h6; rfl)
      obtain ⟨xs, a1, a2, a3, a4⟩ := dict_more (k := key) d1 d2 h7 hlen
      exact ⟨xs, key, hyk, a1, a2, _, hrest, F7, fi7, ((((s2.trans s3).trans s4).trans s5).trans s6).trans s7, (((p2.trans p4).trans p5).trans p6).trans p7, a3, a4⟩
  · have ei : i = ds.length := by omega
    subst ei
    rw [List.drop_length] at hct
    cases hct
    have e3 := e1.unwipe e2 s2 p2 hv
    exact .inl ⟨fd.stop H2 (s2.trans e2.sub), q _ F2 fi2 H2 (s1.trans s2) (p1.trans p2) e3 (new_unwipe hv h2)⟩
theorem ev_dc1 {rk : List (Key × Dt)} (hc : X.calm = true) (hN : X.N.Nodup) (hi : EvI T X G mu t0 i0 ds mu1) (ok : BlkOk X.N X.env.scope scope own) (hv : ∀ j ∈ own.map (·.2), ∀ m, G[j]? ≠ some (.own m))
    (ht : To1 T X scope (own.map (·.2)) (wipeC G (own.map (·.2))) mu1 t0 kx vx ds [] rk) (hs : ∀ x, foldedSetIterable i0 X.env x = pure x := by intro _; rfl) :
    EvD T X G mu (.DictComp kx vx [⟨t0, i0, [], 0⟩] scope pos) (.new (dicK rk)) mu1 :=
  pe_imp (pe_dc hc hN hi ok gU_ok tU_ok eU_ok eU_ok hs) fun sg H Q h => d1_read hv ht h
/-- keys that all differ -/
theorem to1_ints {α : Type} (t : α → Dt) (k : α → Int) (v : α → Dt) {us : List Nat} : ∀ (l : List α) (kvs : List (Key × Dt)), (kvs.map (·.1) ++ l.map fun a => (Sum.inl (k a) : Key)).Nodup → kvs.length + l.length < 1000000 →
    (∀ a ∈ l, ∃ (G' : List Cell) (ix : List Nat), BlkAll X scope (fun Y => PG Y t0 (rdG X.K T G mu (t a) G' ix)) ∧ (∀ j ∈ ix, j ∈ us) ∧ wipeC G' us = G ∧ BlkAll X scope (fun Y => PE Y kx (rd X.K T G' mu (.dat (.int (k a))) mu)) ∧ BlkAll X scope (fun Y => PE Y vx (rd X.K T G' mu (.dat (v a)) mu))) →
    To1 T X scope us G mu t0 kx vx (l.map t) kvs (kvs ++ l.map fun a => (Sum.inl (k a), v a))
  | [], kvs, _, _, _ => by
    rw [List.map_nil, List.map_nil, List.append_nil]
    exact .nil
  | a :: l, kvs, hn, hl, h => by
    obtain ⟨G', ix, h1, h2, h3, h4, h5⟩ := h a List.mem_cons_self
    rw [List.length_cons] at hl
    have hk : (Sum.inl (k a) : Key) ∉ kvs.map (·.1) := fun z => (List.nodup_append.mp hn).2.2 _ z _ List.mem_cons_self rfl
    refine .take (k := .inl (k a)) h1 h2 h3 h4 h5 (by omega) ?_
    rw [putA_end' hk]
    have r := to1_ints t k v l (kvs ++ [(Sum.inl (k a), v a)]) (by
      rw [List.map_append, List.append_assoc]
      exact hn) (by rw [List.length_append]; show kvs.length + 1 + l.length < _; omega) fun b hb => h b (List.mem_cons_of_mem _ hb)
    rw [List.append_assoc] at r
    exact r
end
end Dl

set_option Elab.async false
set_option linter.all false
set_option maxRecDepth 100000
set_option maxHeartbeats 4000000
/-! DlDs: y = {..} where y is a local name (the new dict is stored before the block's names go), and a dict of one's own that stays as it is from here on. -/
namespace Dl
open PySem PySem.Spec PyProof.Rows L2
section
variable {X : Cx}
/-- a dict comprehension on its name's line is stored from within -/
theorem keeps_dict {ke ve : Expr} {cs : List Comprehension} {sc : Scope} {dp np : Pos} {name : Str} {line : Nat} {E : Env} (fnc : E.scope.kind = .function) (loc : E.scope.names.lookup name = some .local) (row : (np.line == dp.line) = true)
    (fresh : (sc.names.any fun (n, k) => n == name && (k == .local || k == .cell)) = false) : swapsWith (.DictComp ke ve cs sc dp) (some (.Name name np)) line E = pure true := by
  have q1 : E.kindOf name = some .local := loc
  have q2 : E.blockKind = .function := by
    show (if _ then _ else _) = _
    rw [fnc] <;> rfl
  unfold swapsWith
  simp only [q1, q2, fresh, Expr.pos, row] <;> rfl
theorem ps_keepD {j : Nat} {name : Str} {np dp sp : Pos} {ke ve t0 i0 : Expr} {qs : List Expr} {sc : Scope} {mine : List (Str × Nat)} {wi : TI} {tg : TG} {tq : TT} {tk tv : TE} (calm : X.calm = true) (nd : X.N.Nodup) (at_j : X.N[j]? = some name) (loc : X.env.scope.names.lookup name = some .local)
    (kept : swapsWith (.DictComp ke ve [⟨t0, i0, qs, 0⟩] sc dp) (some (.Name name np)) sp.line X.env = pure true) (pi : PI X t0 i0 wi) (bo : BlkOk X.N X.env.scope sc mine)
    (pg : BlkAll X sc fun Y => PG Y t0 tg) (pt : BlkAll X sc fun Y => PTs Y qs tq) (pk : BlkAll X sc fun Y => PE Y ke tk) (pv : BlkAll X sc fun Y => PE Y ve tv) (nofold : ∀ x, foldedSetIterable i0 X.env x = pure x) :
    PS X (.Assign [.Name name np] (.DictComp ke ve [⟨t0, i0, qs, 0⟩] sc dp) sp) (tAsg (tDc wi tg tq tk tv (mine.map (·.2))) (gName j)) := ⟨fun pins s sg H D I told => by
  rw [exec_Assign_Name_used (hs := kept)]
  apply wpAny_bind
  apply wpAny_standAt
  apply wpAny_bind
  have told : tDc wi tg tq tk tv (mine.map (·.2)) sg H (fun x K => gName j x sg K D.nx) := told
  show wpAny _ X.A (comprehension (.DictComp ke ve [⟨t0, i0, qs, 0⟩] sc dp) sc X.env (firstIterPos [⟨t0, i0, qs, 0⟩] dp) newDict false (eval i0 X.env) (some (assign (.Name name np) X.env)) >>= fun _ => pure ()) _ _ s
  refine wpAny_bind (thn (dc_core (Qf := fun _ z => SP X pins D .next z) calm nd I pi bo pg pt pk pv nofold told fun d c z m K I2 end2 ns fp => ?_) fun _ z q => wpAny_pure (wpAny_pure q))
  refine wpAny_assign_Name (store_ok2 (v := V.ref d) I2 nd at_j (.inl loc) rfl (fun z2 I3 ⟨home, same, where_⟩ => ?_) (.inr loc))
  have other : c ≠ home := where_.elim (fun e => e ▸ fp.2.1) fun e z => fp.2.2.2.2.1 name home e z.symm
  exact ⟨m, ns.sameBut same other, fun z3 same3 => ⟨_, K, I3.turned (t' := z2.toks) (fun x o hx hz => (same3.2 x hx).trans hz) fp.1 fp.2.1 fp.2.2.2.1 fp.2.2.2.2.1 fp.2.2.2.2.2, end2⟩⟩⟩
end
end Dl
namespace Dl
open PySem PySem.Spec PyProof.Rows L2
section
variable {T : Tbs} {X : Cx} {W : WX} {G : List Cell} {mu mu1 : List Dt} {t0 i0 kx vx : Expr} {scope : Scope} {own : List (Str × Nat)} {pos : Pos} {ds : List Dt} {rest : List Stmt} {o : SOut}
/-- y = {..}, y a local name: an own dict -/
theorem sd_dc1 {rk : List (Key × Dt)} {y : Str} {py spos : Pos} (hc : X.calm = true) (hN : X.N.Nodup) (i : Nat) (hi : EvI T X G mu t0 i0 ds mu1) (ok : BlkOk X.N X.env.scope scope own) (hv : ∀ j ∈ own.map (·.2), ∀ m, G[j]? ≠ some (.own m))
    (ht : To1 T X scope (own.map (·.2)) (wipeC G (own.map (·.2))) mu1 t0 kx vx ds [] rk) (hy : X.N[i]? = some y := by rfl) (hyl : X.env.scope.names.lookup y = some .local := by rfl)
    (hsw : swapsWith (.DictComp kx vx [⟨t0, i0, [], 0⟩] scope pos) (some (.Name y py)) spos.line X.env = pure true := by exact keeps_dict rfl rfl rfl (by decide +kernel)) (hs : ∀ x, foldedSetIterable i0 X.env x = pure x := by intro _; rfl) :
    SD T X W G mu (.Assign [.Name y py] (.DictComp kx vx [⟨t0, i0, [], 0⟩] scope pos) spos) (.nx (G.set i (.own (dicK rk))) mu1) :=
  ps_imp (ps_keepD hc hN hy hyl hsw hi ok gU_ok tU_ok eU_ok eU_ok hs) fun D sg H ⟨B, F, fi, e, q⟩ => d1_read hv ht (Q := fun x H1 => gName i x sg H1 D.nx) ⟨B, F, fi, e, fun v F' fi' H' s p e' h' => q F' fi' _ H' s p (e'.setO h')⟩
/-- an own dict of ints stays as it is from here on -/
theorem ss_lockI {kvs : IK} (i : Nat) (hG : G[i]? = some (.own (dicK (ids kvs)))) (h : SDs T X W (G.set i (.val (.abs (imA kvs)))) mu rest o) : SDs T X W G mu rest o := by
  refine ⟨fun pins s sg H D I ⟨B, F, fi, e, q⟩ => ?_⟩
  obtain ⟨v, h1, e2, a4⟩ := e.out hG
  obtain ⟨d, rfl, n1, ho, n4, n5, n6⟩ := a4
  obtain ⟨xs, g1, g2⟩ := ob_viewK ho
  have ex := g2.ints
  subst ex
  obtain ⟨od, I2⟩ := I.lock g1 trivial
  have e3 := e2.touchO (.frz od (.dK (ivs kvs))) n1 n6 n4 n5 (e2.tabne g1 fun q z => by cases z)
  have e4 := e3.grow upd_same n1 n6 (fun q z => by cases z) n4 n5
  have e5 := e4.setV (i := i) (v := .ref d) (d := .abs (imA kvs)) (.abs ⟨od, upd_same⟩)
  have es : sg.set i (some (.ref d)) = sg := by
    apply List.ext_getElem?
    intro j
    by_cases z : i = j
    · subst z
      rw [List.getElem?_set_self (List.getElem?_eq_some_iff.mp h1).1, h1]
    · rw [List.getElem?_set_ne z]
  rw [es, List.set_set] at e5
  exact h.run pins s sg _ D I2 ⟨B, _, fi, e5, post_next (Sub.new n1) (List.prefix_refl _) q⟩
end
section
variable {T : Tbs} {X : Cx} {G : List Cell} {mu mu1 mu2 : List Dt} {e o a b kx tg : Expr} {r r1 r2 : Res} {pos p q1 apos : Pos}
theorem et_imeq {f g : IK} (hu : X.A.units < cLine) (ha : EvD T X G mu a (.dat (.abs (imA f))) mu1) (hb : EvD T X G mu1 b (.dat (.abs (imA g))) mu2) (hl : f.length = g.length) (hk : ∀ p ∈ f, ∃ v, getA (ids g) (.inl p.1) = some (.int v)) : EvT T X G mu (.Compare a [.Eq] [b] pos) (imEq f g) mu2 :=
  et_cmp (op_eqIm hu) (op2_val (d1 := .abs (imA f)) (d2 := .abs (imA g)) rfl rfl fun F fi H v u Q s h1 h2 q => by
    rcases h1 with h1 | ⟨_, _, h1⟩
    · rcases h2 with h2 | ⟨_, _, h2⟩
      · cases h1 with
        | abs k1 => cases h2 with
          | abs k2 =>
            obtain ⟨oa, k1⟩ := k1
            obtain ⟨ob, k2⟩ := k2
            exact ⟨_, _, f, g, oa, ob, rfl, rfl, s _ _ k1, s _ _ k2, hl, hk, q _ (.bl _)⟩
      · exact h2.elim
    · exact h1.elim) (nomark _) ha hb
end
section
variable {T : Tbs} {X : Cx} {scope : Scope} {vs vs1 : List Nat} {G : List Cell} {mu : List Dt} {tg tg1 iter1 elt : Expr} {ifs ifs1 : List Expr}
/-- [.. for a in as if q for b in bs ..] -/
theorem comp2_filtA {α : Type} {l : List α} (t : α → Dt) {q : α → Bool} {g : α → List Dt} (h : ∀ d ∈ l, ∃ (G' : List Cell) (ix : List Nat) (ds1 : List Dt), BlkAll X scope (fun Y => PG Y tg (rdG X.K T G mu (t d) G' ix)) ∧ (∀ j ∈ ix, j ∈ vs) ∧ wipeC G' vs = G ∧ BlkAll X scope (fun Y => PTs Y ifs (rdT X.K T G' mu (q d) mu)) ∧
    (q d = true → BlkAll X scope (fun Y => PI Y tg1 iter1 (rdI X.K T G' mu ds1 mu)) ∧ (∀ j ∈ vs, ∀ m, G'[j]? ≠ some (.own m)) ∧ CompTo T X scope vs1 (wipeC G' vs1) tg1 elt ifs1 ds1 mu (g d) mu)) : CompTo2 T X scope vs vs1 G tg tg1 iter1 elt ifs ifs1 (l.map t) mu ((l.filter q).flatMap g) mu := by
  induction l with
  | nil => exact .nil
  | cons d l ih =>
    obtain ⟨G', ix, ds1, h1, h2, h3, h4, h5⟩ := h d List.mem_cons_self
    have r := ih fun x hx => h x (List.mem_cons_of_mem _ hx)
    rw [List.map_cons, List.filter_cons]
    cases e : q d with
    | false =>
      rw [e] at h4
      rw [if_neg (by decide)]
      exact .skip h1 h2 h3 h4 r
    | true =>
      rw [e] at h4
      obtain ⟨h6, h7, h8⟩ := h5 e
      rw [if_pos rfl, List.flatMap_cons]
      exact .take h1 h2 h3 h4 h6 h7 h8 r
end
end Dl

set_option Elab.async false
set_option linter.all false
set_option maxRecDepth 100000
set_option maxHeartbeats 4000000
namespace K63
open PySem PySem.Spec PyProof.Rows L2 Dl
theorem eqv_I : ∀ a b : List Int, PyData.eqvAll (Dt.pyAll (a.map .int)) (Dt.pyAll (b.map .int)) = decide (a = b)
  | [], [] => rfl
  | [], _ :: _ => rfl
  | _ :: _, [] => rfl
  | x :: a, y :: b => by
    show ((x == y) && PyData.eqvAll (Dt.pyAll (a.map .int)) (Dt.pyAll (b.map .int))) = _
    rw [eqv_I a b]
    by_cases h : x = y
    · subst h
      by_cases h2 : a = b
      · subst h2
        simp
      · simp [h2]
    · simp [h]
theorem eqv_L (a b : List Int) : PyData.eqv (Dt.lst (a.map .int)).py (Dt.lst (b.map .int)).py = decide (a = b) := eqv_I a b
theorem iterR_const {α ρ : Type} {step : α → α} {fin : α → Option ρ} {z : ρ} (h : ∀ a r, fin a = some r → r = z) : ∀ (n : Nat) (a : α), iterR step fin z n a = z
  | 0, _ => rfl
  | n + 1, a => by
    unfold iterR
    cases e : fin a with
    | some r => exact h a r e
    | none => exact iterR_const h n (step a)
def S_come_to : FSpec := fun ds mu o => ∃ ns ps st, ds = [dReel ns ps, .lst (st.map .int)] ∧ GoodN ns ∧ InR ns st ∧ st.length < 64 ∧ o = .ret (.dat (.lst ((comeS ns st).map .int))) mu
def S_states : FSpec := fun ds mu o => ∃ r : Reel, ds = [dR r] ∧ GoodN r.1 ∧ o = .ret (.dat (.lst ((Sx r).map .int))) mu
section
variable {P : Program} {w : World} {K : PySem.W.Frag} {mg : Str → Option Value} {base : Heap} (c : Fc fa fn tf tl K mg base)
include c
theorem ok_come_to : FnG P w K mg base (tabsOf tf tl K) 2 "come_to" S_come_to := by
  refine fn_DD c d_come_to (g_come_to c) sc_come_to bi_come_to (fun ds mu o ⟨_, _, _, h, _⟩ => by rw [h]; rfl) fun A outer s H E hr ds mu o h => ?_
  obtain ⟨ns, ps, st, rfl, g, hin, hl, rfl⟩ := h
  refine ⟨_, .ret, ?_⟩
  refine ss_cons (sd_set sc_come_to.nd 2 (ev_give (ev_sortset rfl (ev_val 1) (b_sorted c) (b_set c) hl rfl))) ?_
  have hR : Dt.lst ((comeS ns st).map .int) = iterR (fun k => k + 1) (fun k => if stepC ns (itC ns st k) = itC ns st k then some (Dt.lst ((comeS ns st).map .int)) else none) (Dt.lst ((comeS ns st).map .int)) 8 0 := (iterR_const (fun a r h => by
    by_cases e : stepC ns (itC ns st a) = itC ns st a
    · rw [if_pos e] at h
      exact (Option.some.inj h).symm
    · rw [if_neg e] at h
      cases h) 8 0).symm
  rw [hR]
  refine ss_stop (sd_while (n := 8) (passes_of rfl) (while_ret (C := fun k : Nat => [.val (dReel ns ps), .val (.lst (st.map .int)), .val (.lst ((itC ns st k).map .int)), .no]) (fun k => k + 1) (fun k => if stepC ns (itC ns st k) = itC ns st k then some (Dt.lst ((comeS ns st).map .int)) else none) (Dt.lst ((comeS ns st).map .int)) (fun k => 7 - k) (fun k => k ≤ 6) (fun k hk => et_val ev_bl) (fun k hk he => ?go) (fun k r hk he => ?fin) 8 0 (by decide) (Nat.zero_le _)))
  case go =>
    have ne : stepC ns (itC ns st k) ≠ itC ns st k := fun e => by
      have he : (if stepC ns (itC ns st k) = itC ns st k then some (Dt.lst ((comeS ns st).map .int)) else none) = none := he
      rw [if_pos e] at he
      cases he
    have k6 : k ≠ 6 := fun e => ne (by rw [e]; exact itC_last g hin)
    have o1 := itC_rg g hin k
    have l1 := o1.len g
    have l2 := (o1.bey g).len g
    refine ⟨by omega, by show 7 - (k + 1) < 7 - k; omega, [.val (dReel ns ps), .val (.lst (st.map .int)), .val (.lst ((itC ns st (k + 1)).map .int)), .val (.lst ((stepC ns (itC ns st k)).map .int))], ?_, Wk.same (Wk.same (Wk.same (Wk.no Wk.nil)))⟩
    refine ss_cons (sd_set sc_come_to.nd 3 (ev_give (ev_sortset rfl (ns := itC ns st k ++ bey ns (itC ns st k)) (ev_addL (ev_val 2) (ev_give (ev_call (ok_beyond c) hr (ea_cons (ev_val 0) (ea_cons (ev_val 2) ea_nil)) (.dat (.dat .nil)) ⟨ns, ps, itC ns st k, rfl, g, o1.rg, l1, rfl⟩)) ?sz) (b_sorted c) (b_set c) ?ln (congrArg (fun z => some (Dt.lst z)) (app_int _ _))))) ?_
    case sz =>
      rw [List.length_map, List.length_map, sizeLine_eq]
      omega
    case ln =>
      rw [List.length_append]
      omega
    refine ss_cons (sif0 (et_eq hr.units (ev_val 3) (ev_val 2) (eqv_L _ _) (dep_ints 59 _) (dep_ints 59 _)) (decide_eq_false ne)) ?_
    exact ss_one (sd_set sc_come_to.nd 2 (ev_val 3))
  case fin =>
    have hs : stepC ns (itC ns st k) = itC ns st k ∧ r = Dt.lst ((comeS ns st).map .int) := by
      have he : (if stepC ns (itC ns st k) = itC ns st k then some (Dt.lst ((comeS ns st).map .int)) else none) = some r := he
      by_cases e : stepC ns (itC ns st k) = itC ns st k
      · rw [if_pos e] at he
        exact ⟨e, (Option.some.inj he).symm⟩
      · rw [if_neg e] at he
        cases he
    obtain ⟨e, rfl⟩ := hs
    have o1 := itC_rg g hin k
    have l1 := o1.len g
    have l2 := (o1.bey g).len g
    refine ss_cons (sd_set sc_come_to.nd 3 (ev_give (ev_sortset rfl (ns := itC ns st k ++ bey ns (itC ns st k)) (ev_addL (ev_val 2) (ev_give (ev_call (ok_beyond c) hr (ea_cons (ev_val 0) (ea_cons (ev_val 2) ea_nil)) (.dat (.dat .nil)) ⟨ns, ps, itC ns st k, rfl, g, o1.rg, l1, rfl⟩)) ?sz) (b_sorted c) (b_set c) ?ln (congrArg (fun z => some (Dt.lst z)) (app_int _ _))))) ?_
    case sz =>
      rw [List.length_map, List.length_map, sizeLine_eq]
      omega
    case ln =>
      rw [List.length_append]
      omega
    rw [← itC_end e hk]
    exact ss_stop (sifT (et_eq hr.units (ev_val 3) (ev_val 2) (eqv_L _ _) (dep_ints 59 _) (dep_ints 59 _)) (ss_one (sd_ret (ev_val 2))) (decide_eq_true e))
theorem ok_states_of : FnG P w K mg base (tabsOf tf tl K) 3 "states_of" S_states := by
  refine fn_DD c d_states_of (g_states_of c) sc_states_of bi_states_of (fun ds mu o ⟨_, h, _⟩ => by rw [h]; rfl) fun A outer s H E hr ds mu o h => ?_
  obtain ⟨r, rfl, g, rfl⟩ := h
  refine ⟨_, .ret, ?_⟩
  rw [Sx_eq]
  exact ss_one (sd_ret (ev_call (ok_come_to c) hr (ea_cons (ev_val 0) (ea_cons (ev_give (ev_lst (ds := [.int 0]) (ea_cons ev_int ea_nil) (.dat .nil) (by simp))) ea_nil)) (.dat (.dat .nil)) ⟨r.1, r.2, [0], rfl, g, in0 g, by decide, rfl⟩))
end
end K63

set_option Elab.async false
set_option linter.all false
set_option maxRecDepth 100000
set_option maxHeartbeats 4000000
namespace K63
open PySem PySem.Spec PyProof.Rows L2 Dl
section
variable {T : Tbs} {X : Cx} {G : List Cell} {mu mu1 : List Dt} {e : Expr} {r : Res} {pos p : Pos}
theorem ev_minL {ns : List Int} (hc : X.calm = true) (h : EvD T X G mu e r mu1) (hm : X.mg "min" = none) (hne : ns ≠ []) (l : look G r = some (.lst (ns.map Dt.int))) (hg : Gl X "min" := by rfl) (he : starEach [e] X.env = (false, eval e X.env) :: starEach [] X.env := by rfl) :
    EvD T X G mu (.Call (.Name "min" p) [e] [] pos) (.dat (.int (minD ns))) mu1 := by
  refine ev_B (cr_min hc) (cd_one l fun F fi H v Q s hv q => ?_) (ea_cons h ea_nil he) hm boot_min hg (by decide) (by decide) he
  obtain ⟨a, vs, rfl, h1, h2⟩ := hv.lst s
  have e1 := h2.ints
  subst e1
  exact ⟨a, ns, rfl, SqL.of h1, List.length_pos_iff.mpr hne, fun m h1 h2 => by rw [minD_eq h1 h2]; exact q _ (.int _)⟩
end
theorem getA_inl {l : List Int} {f : Int → Dt} {s : Int} (h : s ∈ l) : getA (l.map fun s => ((Sum.inl s : Key), f s)) (.inl s) = some (f s) := by
  induction l with
  | nil => cases h
  | cons a l ih =>
    rw [List.map_cons, getA_cons]
    by_cases e : a = s
    · rw [if_pos (by rw [e]), e]
    · rw [if_neg fun z => e (Sum.inl.inj z)]
      exact ih ((List.mem_cons.mp h).resolve_left fun z => e z.symm)
/-- the dict of heads -/
def imL (r : Reel) (h : Int → Int) : IK := (Sx r).map fun s => (s, h s)
theorem ids_imL (r : Reel) (h : Int → Int) : ids (imL r h) = (Sx r).map fun s => ((Sum.inl s : Key), Dt.int (h s)) := by
  unfold ids imL
  rw [List.map_map] <;> rfl
theorem im_get {r : Reel} {h : Int → Int} {s : Int} (hs : s ∈ Sx r) : getA (ids (imL r h)) (.inl s) = some (.int (h s)) := by
  rw [ids_imL]
  exact getA_inl (f := fun s => Dt.int (h s)) hs
theorem im_keys (r : Reel) (h : Int → Int) : ((imL r h).map fun p => Dt.int p.1) = (Sx r).map Dt.int := by
  unfold imL
  rw [List.map_map] <;> rfl
theorem im_eq (r : Reel) (f g : Int → Int) : imEq (imL r f) (imL r g) = decide (∀ s ∈ Sx r, f s = g s) := by
  rw [Bool.eq_iff_iff, decide_eq_true_iff]
  unfold imEq
  rw [List.all_eq_true]
  constructor
  · intro h s hs
    have := h (s, f s) (List.mem_map.mpr ⟨s, hs, rfl⟩)
    rw [im_get hs] at this
    exact beq_iff_eq.mp this
  · intro h p hp
    obtain ⟨s, hs, rfl⟩ := List.mem_map.mp hp
    show (match getA (ids (imL r g)) (.inl s) with | some (.int v) => f s == v | _ => false) = true
    rw [im_get hs]
    exact beq_iff_eq.mpr (h s hs)
theorem eqv_M (a b : Int × List Int) : PyData.eqv (Dt.tup [.int a.1, dInts a.2]).py (Dt.tup [.int b.1, dInts b.2]).py = decide (a = b) := by
  show ((a.1 == b.1) && (PyData.eqvAll (Dt.pyAll (a.2.map .int)) (Dt.pyAll (b.2.map .int)) && true)) = _
  rw [eqv_I, Bool.and_true]
  obtain ⟨a1, a2⟩ := a
  obtain ⟨b1, b2⟩ := b
  by_cases h1 : a1 = b1
  · by_cases h2 : a2 = b2
    · simp [h1, h2]
    · simp [h2]
  · simp [h1]
theorem dep_M (a : Int × List Int) : (Dt.tup [.int a.1, dInts a.2]).dep 60 = true := by
  show ([Dt.int a.1, dInts a.2].all (Dt.dep 59)) = true
  simp only [List.all_cons, List.all_nil, Bool.and_true]
  have h : (dInts a.2).dep 59 = true := dep_intsT 58 a.2
  rw [h] <;> rfl
section
variable {T : Tbs} {X : Cx} {W : WX} {c : Expr} {body : List Stmt} {mu : List Dt}
theorem while_ret2 {α : Type} (C : α → List Cell) (step : α → α) (fin : α → Option Dt) (z : Dt) (meas : α → Nat) (P : α → Prop) (h1 : ∀ a, P a → EvT T X (C a) mu c true mu)
    (h2 : ∀ a, P a → fin a = none → P (step a) ∧ meas (step a) < meas a) (hb : ∀ a, P a → ∃ G2, Wk (C (step a)) G2 ∧ SDs T X W (C a) mu body (match fin a with | some r => .ret (.dat r) mu | none => .nx G2 mu)) (n : Nat) (a : α) (hm : meas a < n) (ha : P a) : WhileTo T X W c body n (C a) mu (.ret (.dat (iterR step fin z n a)) mu) :=
  while_ret C step fin z meas P h1 (fun a ha he => by
    obtain ⟨G2, w, h⟩ := hb a ha
    rw [he] at h
    obtain ⟨p1, p2⟩ := h2 a ha he
    exact ⟨p1, p2, G2, h, w⟩) (fun a r ha he => by
    obtain ⟨G2, w, h⟩ := hb a ha
    rw [he] at h
    exact h) n a hm ha
end
def mkD (a : Int × List Int) : Dt := .tup [.int a.1, dInts a.2]
def S_classes : FSpec := fun ds mu o => ∃ r : Reel, ds = [dR r] ∧ GoodR r.1 r.2 ∧ o = .ret (.dat (.abs (imA (imL r (hS r))))) mu
theorem keys_nd {r : Reel} (g : GoodN r.1) : (([] : List (Key × Dt)).map (·.1) ++ (Sx r).map fun a => (Sum.inl a : Key)).Nodup := by
  rw [List.map_nil, List.nil_append]
  have nd : (Sx r).Nodup := (Sx_ok g).up.imp fun h => by omega
  exact List.Pairwise.map _ (fun a b h z => h (Sum.inl.inj z)) nd
def doneH (r : Reel) (k : Nat) : Prop := ∀ s ∈ Sx r, hN r (k + 1) s = hN r k s
instance (r : Reel) (k : Nat) : Decidable (doneH r k) := by unfold doneH; infer_instance
def finH (r : Reel) (k : Nat) : Option Dt := if doneH r k then some (.abs (imA (imL r (hS r)))) else none
section
variable {P : Program} {w : World} {K : PySem.W.Frag} {mg : Str → Option Value} {base : Heap} (c : Fc fa fn tf tl K mg base)
include c
theorem ok_classes_of : FnG P w K mg base (tabsOf tf tl K) 4 "classes_of" S_classes := by
  refine fn_DD c d_classes_of (g_classes_of c) sc_classes_of bi_classes_of (fun ds mu o ⟨_, h, _⟩ => by rw [h]; rfl) fun A outer s H E hr ds mu o h => ?_
  obtain ⟨r, rfl, g, rfl⟩ := h
  refine ⟨_, .ret, ?_⟩
  have hu : (cxF P w K mg base n_classes_of "classes_of" s_classes_of A outer s H E).A.units + 1 < cLine := by
    have := hr.units
    omega
  have hu0 : (cxF P w K mg base n_classes_of "classes_of" s_classes_of A outer s H E).A.units < cLine := by omega
  have nd := keys_nd g.n
  have l6 := (Sx_ok g.n).len g.n
  refine ss_cons (sd_set sc_classes_of.nd 1 (ev_call (ok_states_of c) hr (ea_cons (ev_val 0) ea_nil) (.dat .nil) ⟨r, rfl, g.n, rfl⟩)) ?_
  refine ss_cons (sd_set sc_classes_of.nd 2 (ev_lockI (kvs := imL r (hN r 0)) (as (ev_dc1 (own := [("state", 3)]) rfl sc_classes_of.nd (ei_list (ev_val 1)) (blkOk_by (by kernel_rfl)) (noown rfl)
    (to1_ints Dt.int (fun a => a) (fun _ => Dt.int 0) (Sx r) [] nd (by show 0 + _ < _; omega) fun a ha => ⟨_, _, fun s H C cl fp => eg_name sc_classes_of.nd 3, by decide, rfl, fun s H C cl fp => ev_val 3, fun s H C cl fp => ev_int⟩)) (by rw [ids_imL, List.nil_append] <;> rfl)))) ?_
  have hR : Dt.abs (imA (imL r (hS r))) = iterR (fun k => k + 1) (finH r) (Dt.abs (imA (imL r (hS r)))) 42 0 := (iterR_const (fun a r h => by
    unfold finH at h
    split at h
    · exact (Option.some.inj h).symm
    · cases h) 42 0).symm
  rw [hR]
  refine ss_stop (sd_while (n := 42) (passes_of rfl) (while_ret2 (C := fun k : Nat => [.val (dR r), .val (.lst ((Sx r).map .int)), .val (.abs (imA (imL r (hN r k)))), .no, .no, .no, .no, .no, .no]) (fun k => k + 1) (finH r) (Dt.abs (imA (imL r (hS r)))) (fun k => 41 - k) (fun k => k ≤ 40) (fun k hk => et_val ev_bl) (fun k hk he => ?go) (fun k hk => ⟨[.val (dR r), .val (.lst ((Sx r).map .int)), .val (.abs (imA (imL r (hN r (k + 1))))), .no, .val (dicK ((Sx r).map fun s => (.inl s, dInts (ssetI ((nxt r.1 s).map (hN r k)))))), .no, .val (dicK ((Sx r).map fun s => (.inl s, mkD (mkH r (hN r k) s)))), .val (.abs (imA (imL r (hN r (k + 1))))), .no], ?wk, ?body⟩) 42 0 (by decide) (Nat.zero_le _)))
  case wk => repeat (first | exact Wk.nil | refine Wk.same ?_ | refine Wk.no ?_)
  case go =>
    have ne : ¬ doneH r k := fun e => by
      unfold finH at he
      rw [if_pos e] at he
      cases he
    have k40 : k ≠ 40 := fun e => ne (by rw [e]; exact fun s hs => hN_last g hs)
    exact ⟨by omega, by show 41 - (k + 1) < 41 - k; omega⟩
  case body =>
    have hk : k ≤ 40 := hk
    refine ss_cons (G1 := [.val (dR r), .val (.lst ((Sx r).map .int)), .val (.abs (imA (imL r (hN r k)))), .no, .val (dicK ((Sx r).map fun s => (.inl s, dInts (ssetI ((nxt r.1 s).map (hN r k)))))), .no, .no, .no, .no]) (mu1 := mu) ?beh ?_
    case beh =>
      refine sd_set sc_classes_of.nd 4 (ev_give (as (ev_dc1 (own := [("state", 3)]) rfl sc_classes_of.nd (ei_list (ev_val 1)) (blkOk_by (by kernel_rfl)) (noown rfl)
        (to1_ints Dt.int (fun a => a) (fun s => dInts (ssetI ((nxt r.1 s).map (hN r k)))) (Sx r) [] nd (by show 0 + _ < _; omega) fun a ha => ⟨_, _, fun s H C cl fp => eg_name sc_classes_of.nd 3, by decide, rfl, fun s H C cl fp => ev_val 3, fun s H C cl fp => ?one⟩)) (by rw [List.nil_append])))
      case one =>
        have ar := Sx_rg g.n ha
        have a6 := up_len (g.n.up _ (nxt_mem ar)) (g.n.rg _ (nxt_mem ar))
        have hi := g.n.hi
        exact ev_totup (ev_sortset rfl (ns := (nxt r.1 a).map (hN r k)) (ev_comp (own := [("there", 5)]) rfl sc_classes_of.nd (ei_tup (ev_ixT (ev_ixT (ev_val 0) ev_int rfl) (ev_val 3) (at_nexts ar))) (blkOk_by (by kernel_rfl)) (noown rfl)
          (comp_allA Dt.int (fun t => Dt.int (hN r k t)) fun t ht => ⟨_, _, fun s H C cl fp => eg_name sc_classes_of.nd 5, by decide, rfl, fun s H C cl fp => ev_imget hu (ev_val 2) (ev_val 5) (im_get (Sx_next g.n ha ht))⟩) (by rw [List.length_map]; omega)) (b_sorted c) (b_set c) (by rw [List.length_map]; omega) (by show some (Dt.lst _) = _; rw [List.map_map] <;> rfl)) (b_tuple c)
    refine ss_cons (G1 := [.val (dR r), .val (.lst ((Sx r).map .int)), .val (.abs (imA (imL r (hN r k)))), .no, .val (dicK ((Sx r).map fun s => (.inl s, dInts (ssetI ((nxt r.1 s).map (hN r k)))))), .no, .val (dicK ((Sx r).map fun s => (.inl s, mkD (mkH r (hN r k) s)))), .no, .no]) (mu1 := mu) ?mar ?_
    case mar =>
      refine sd_set sc_classes_of.nd 6 (ev_give (as (ev_dc1 (own := [("state", 3)]) rfl sc_classes_of.nd (ei_list (ev_val 1)) (blkOk_by (by kernel_rfl)) (noown rfl)
        (to1_ints Dt.int (fun a => a) (fun s => mkD (mkH r (hN r k) s)) (Sx r) [] nd (by show 0 + _ < _; omega) fun a ha => ⟨_, _, fun s H C cl fp => eg_name sc_classes_of.nd 3, by decide, rfl, fun s H C cl fp => ev_val 3, fun s H C cl fp => ?one⟩)) (by rw [List.nil_append])))
      case one =>
        have ar := Sx_rg g.n ha
        exact ev_tup (ds := [.int (pic r.2 a), dInts (ssetI ((nxt r.1 a).map (hN r k)))]) (ea_cons (ev_ixT (ev_ixT (ev_val 0) ev_int rfl) (ev_val 3) (at_pics g ar)) (ea_cons (ev_dgetK (k := .inl a) hu (ev_val 4) (ev_val 3) (getA_inl (f := fun s => dInts (ssetI ((nxt r.1 s).map (hN r k)))) ha)) ea_nil)) (.dat (.dat .nil)) (by simp)
    refine ss_cons (G1 := [.val (dR r), .val (.lst ((Sx r).map .int)), .val (.abs (imA (imL r (hN r k)))), .no, .val (dicK ((Sx r).map fun s => (.inl s, dInts (ssetI ((nxt r.1 s).map (hN r k)))))), .no, .val (dicK ((Sx r).map fun s => (.inl s, mkD (mkH r (hN r k) s)))), .own (dicK (ids (imL r (hN r (k + 1))))), .no]) (mu1 := mu) ?lat ?_
    case lat =>
      rw [ids_imL]
      refine sd_dc1 (own := [("state", 3)]) rfl sc_classes_of.nd 7 (ei_list (ev_val 1)) (blkOk_by (by kernel_rfl)) (noown rfl)
        (to1_ints Dt.int (fun a => a) (fun s => Dt.int (hN r (k + 1) s)) (Sx r) [] nd (by show 0 + _ < _; omega) fun a ha => ⟨_, _, fun s H C cl fp => eg_name sc_classes_of.nd 3, by decide, rfl, fun s H C cl fp => ev_val 3, fun s H C cl fp => ?one⟩)
      case one =>
        have fl : ((Sx r).filter fun o => decide (mkH r (hN r k) o = mkH r (hN r k) a) && decide (hN r k o = hN r k a)).length ≤ (Sx r).length := List.length_filter_le _ _
        refine ev_minL rfl (ns := (Sx r).filter fun o => decide (mkH r (hN r k) o = mkH r (hN r k) a) && decide (hN r k o = hN r k a)) (ev_comp (own := [("one", 8)]) rfl sc_classes_of.nd (ei_list (ev_val 1)) (blkOk_by (by kernel_rfl)) (noown rfl)
          (comp_filtA Dt.int Dt.int (q := fun o => decide (mkH r (hN r k) o = mkH r (hN r k) a) && decide (hN r k o = hN r k a)) fun o ho => ⟨_, _, fun s H C cl fp => eg_name sc_classes_of.nd 8, by decide, rfl, fun s H C cl fp => ?cond, fun _ s H C cl fp => ev_val 8⟩) (by rw [List.length_map]; omega)) (b_min c) ?ne rfl
        case ne => exact List.ne_nil_of_mem (List.mem_filter.mpr ⟨ha, by simp⟩)
        case cond =>
          exact ets_one (et_w (ew_and (et_eq hr.units (d1 := mkD (mkH r (hN r k) o)) (d2 := mkD (mkH r (hN r k) a)) (ev_dgetK (k := .inl o) hu (ev_val 6) (ev_val 8) (getA_inl (f := fun s => mkD (mkH r (hN r k) s)) ho)) (ev_dgetK (k := .inl a) hu (ev_val 6) (ev_val 3) (getA_inl (f := fun s => mkD (mkH r (hN r k) s)) ha)) (eqv_M _ _) (dep_M _) (dep_M _)) fun _ => ew_and1 (et_eqI (ev_imget hu (ev_val 2) (ev_val 8) (im_get ho)) (ev_imget hu (ev_val 2) (ev_val 3) (im_get ha)))))
    refine ss_lockI 7 rfl ?_
    have ln : (imL r (hN r (k + 1))).length = (imL r (hN r k)).length := by
      unfold imL
      rw [List.length_map, List.length_map]
    have ky : ∀ p ∈ imL r (hN r (k + 1)), ∃ v, getA (ids (imL r (hN r k))) (.inl p.1) = some (.int v) := fun p hp => by
      obtain ⟨s, hs, rfl⟩ := List.mem_map.mp hp
      exact ⟨_, im_get hs⟩
    by_cases e : doneH r k
    · have e1 : finH r k = some (.abs (imA (imL r (hN r k)))) := by
        unfold finH
        rw [if_pos e]
        have : imL r (hN r k) = imL r (hS r) := List.map_congr_left fun s hs => by rw [hS_of g hk e hs]
        rw [this]
      rw [e1]
      exact ss_stop (sifT (asT (et_imeq hu0 (ev_val 7) (ev_val 2) ln ky) (im_eq _ _ _)) (ss_one (sd_ret (ev_val 2))) (decide_eq_true e))
    · have e1 : finH r k = none := by
        unfold finH
        rw [if_neg e]
      rw [e1]
      refine ss_cons (sif0 (asT (et_imeq hu0 (ev_val 7) (ev_val 2) ln ky) (im_eq _ _ _)) (decide_eq_false e)) ?_
      exact ss_one (sd_set sc_classes_of.nd 2 (ev_val 7))
end
end K63

set_option Elab.async false
set_option linter.all false
set_option maxRecDepth 100000
set_option maxHeartbeats 4000000
namespace K63
open PySem PySem.Spec PyProof.Rows L2 Dl
section
variable {T : Tbs} {X : Cx} {W : WX} {tg : Expr} {body : List Stmt}
theorem for_mapN {α β : Type} (C : α → List Cell) (M : α → List Dt) (t : β → Dt) (f : α → β → α) (P : Nat → α → Prop) (N : Nat) (l : List β) : ∀ (j : Nat) (a : α), j + l.length ≤ N → P j a → (∀ i b d, i < N → P i b → d ∈ l → P (i + 1) (f b d) ∧ ∃ (G1 : List Cell) (ix : List Nat) (G2 : List Cell), PG X tg (rdG X.K T (C b) (M b) (t d) G1 ix) ∧ SDs T X W G1 (M b) body (.nx G2 (M (f b d))) ∧ Wk (C (f b d)) G2) →
    ForTo T X W tg body (l.map t) (C a) (M a) (.nx (C (l.foldl f a)) (M (l.foldl f a))) := by
  induction l with
  | nil => exact fun _ _ _ _ _ => .nil
  | cons d l ih =>
    intro j a hN ha h
    rw [List.length_cons] at hN
    obtain ⟨h1, G1, ix, G2, h2, h3, h4⟩ := h j a d (by omega) ha List.mem_cons_self
    exact .next h2 (ss_weak h3 h4) (ih (j + 1) (f a d) (by omega) h1 fun i b d' hi hb hd => h i b d' hi hb (List.mem_cons_of_mem _ hd))
end
theorem nxt_len {r : Reel} (g : GoodN r.1) {s : Int} (hs : 0 ≤ s ∧ s < r.1.length) : (nxt r.1 s).length ≤ 6 :=
  Nat.le_trans (up_len (g.up _ (nxt_mem hs)) (g.rg _ (nxt_mem hs))) g.hi
theorem rowS_len {r : Reel} (g : GoodN r.1) (h : Int) : (rowS r h).length ≤ 36 := by
  unfold rowS
  have k : (((Sx r).filter fun s => decide (hS r s = h)).flatMap fun s => (nxt r.1 s).map (toP r)).length ≤ ((Sx r).filter fun s => decide (hS r s = h)).length * 6 := flat_lenM fun s hs => by
    rw [List.length_map]
    exact nxt_len g (Sx_rg g (List.mem_filter.mp hs).1)
  have l1 : ((Sx r).filter fun s => decide (hS r s = h)).length ≤ (Sx r).length := List.length_filter_le _ _
  exact Nat.le_trans k (Nat.mul_le_mul_right 6 (Nat.le_trans l1 ((Sx_ok g).len g)))
def addH (r : Reel) (acc : List (List Int)) (h : Int) : List (List Int) := acc ++ [ssetI (rowS r h)]
theorem addH_fold (r : Reel) : (lotsS r).foldl (addH r) [] = foldN r := by
  have k : ∀ (l : List Int) (a : List (List Int)), l.foldl (addH r) a = a ++ l.map fun h => ssetI (rowS r h) := by
    intro l
    induction l with
    | nil => intro a; simp
    | cons x l ih =>
      intro a
      rw [List.foldl_cons, ih]
      unfold addH
      rw [List.append_assoc] <;> rfl
  rw [k, List.nil_append] <;> rfl
def S_folded : FSpec := fun ds mu o => ∃ r : Reel, ds = [dR r] ∧ GoodR r.1 r.2 ∧ o = .ret (.dat (dR (foldR r))) mu
section
variable {P : Program} {w : World} {K : PySem.W.Frag} {mg : Str → Option Value} {base : Heap} (c : Fc fa fn tf tl K mg base)
include c
theorem ok_folded_of : FnG P w K mg base (tabsOf tf tl K) 5 "folded_of" S_folded := by
  refine fn_DD c d_folded_of (g_folded_of c) sc_folded_of bi_folded_of (fun ds mu o ⟨_, h, _⟩ => by rw [h]; rfl) fun A outer s H E hr ds mu o h => ?_
  obtain ⟨r, rfl, g, rfl⟩ := h
  refine ⟨_, .ret, ?_⟩
  have hu : (cxF P w K mg base n_folded_of "folded_of" s_folded_of A outer s H E).A.units + 1 < cLine := by
    have := hr.units
    omega
  have l6 := (Sx_ok g.n).len g.n
  have ll := lots_len g
  refine ss_cons (sd_set sc_folded_of.nd 1 (ev_call (ok_classes_of c) hr (ea_cons (ev_val 0) ea_nil) (.dat .nil) ⟨r, rfl, g, rfl⟩)) ?_
  refine ss_cons (G1 := [.val (dR r), .val (.abs (imA (imL r (hS r)))), .val (.lst ((lotsS r).map .int)), .no, .no, .no, .no, .no]) (mu1 := mu) ?lots ?_
  case lots =>
    rw [lots_eq]
    exact sd_set sc_folded_of.nd 2 (ev_give (ev_sortset rfl (ns := (Sx r).map (hS r)) (ev_comp (own := [("state", 3)]) rfl sc_folded_of.nd (ei_as (ei_imkeys (ev_val 1)) (im_keys r _)) (blkOk_by (by kernel_rfl)) (noown rfl)
      (comp_allA Dt.int (fun s => Dt.int (hS r s)) fun t ht => ⟨_, _, fun s H C cl fp => eg_name sc_folded_of.nd 3, by decide, rfl, fun s H C cl fp => ev_imget hu (ev_val 1) (ev_val 3) (im_get ht)⟩) (by rw [List.length_map]; omega)) (b_sorted c) (b_set c) (by rw [List.length_map]; omega) (by show some (Dt.lst _) = _; rw [List.map_map] <;> rfl)))
  refine ss_cons (sd_setN sc_folded_of.nd 4 (ev_lst ea_nil .nil)) ?_
  refine ss_cons (G1 := [.val (dR r), .val (.abs (imA (imL r (hS r)))), .val (.lst ((lotsS r).map .int)), .no, .own (.lst ((foldN r).map dInts)), .no, .no, .no]) (mu1 := mu) ?loop ?_
  case loop =>
    rw [← addH_fold]
    refine sd_for (passes_of rfl) rfl (ei_list (ev_val 2)) (for_mapN (C := fun acc : List (List Int) => [.val (dR r), .val (.abs (imA (imL r (hS r)))), .val (.lst ((lotsS r).map .int)), .no, .own (.lst (acc.map dInts)), .no, .no, .no]) (fun _ => mu) Dt.int (addH r) (fun i acc => acc.length ≤ i) 6 (lotsS r) 0 [] (by omega) (Nat.le_refl _) fun i acc h hi ha hh => ⟨?len, _, _, [.val (dR r), .val (.abs (imA (imL r (hS r)))), .val (.lst ((lotsS r).map .int)), .no, .own (.lst ((addH r acc h).map dInts)), .val (.int h), .val (.abs (setA w (rowS r h))), .no], eg_name sc_folded_of.nd 5, ?st, ?wk⟩)
    case len =>
      show (acc ++ [ssetI (rowS r h)]).length ≤ i + 1
      rw [List.length_append]
      show acc.length + 1 ≤ i + 1
      omega
    case wk => repeat (first | exact Wk.nil | refine Wk.same ?_ | refine Wk.no ?_)
    case st =>
      have rl := rowS_len g.n h
      refine ss_cons (sd_set sc_folded_of.nd 6 (ev_setI (ns := rowS r h) rfl (ev_comp2 (own := [("state", 3), ("there", 7)]) (vs1 := [7]) rfl sc_folded_of.nd (ei_as (ei_imkeys (ev_val 1)) (im_keys r _)) (blkOk_by (by kernel_rfl)) (by decide) (noown rfl)
        (comp2_filtA Dt.int (q := fun s => decide (hS r s = h)) (g := fun s => (nxt r.1 s).map fun t => Dt.int (toP r t)) fun a ha => ⟨_, _, (nxt r.1 a).map Dt.int, fun s H C cl fp => eg_name sc_folded_of.nd 3, by decide, rfl, fun s H C cl fp => ets_one (et_eqI (ev_imget hu (ev_val 1) (ev_val 3) (im_get ha)) (ev_val 5)), fun _ => ⟨fun s H C cl fp => ei_tup (ev_ixT (ev_ixT (ev_val 0) ev_int rfl) (ev_val 3) (at_nexts (Sx_rg g.n ha))), noown rfl,
          comp_allA Dt.int (fun t => Dt.int (toP r t)) fun t ht => ⟨_, _, fun s H C cl fp => eg_name sc_folded_of.nd 7, by decide, rfl, fun s H C cl fp => ev_index (ev_val 2) (ev_imget hu (ev_val 1) (ev_val 7) (im_get (Sx_next g.n ha ht))) (posI_at (lot_mem (Sx_next g.n ha ht))) fun m hm => posI_first hm⟩⟩⟩) ?hl) (b_set c) (by omega) ?lk)) ?_
      case hl =>
        have e : (((Sx r).filter fun s => decide (hS r s = h)).flatMap fun s => (nxt r.1 s).map fun t => Dt.int (toP r t)).length = (rowS r h).length := by
          unfold rowS
          rw [List.length_flatMap, List.length_flatMap]
          simp
        omega
      case lk =>
        unfold rowS
        show some (Dt.lst _) = _
        rw [List.map_flatMap]
        simp only [List.map_map]
        rfl
      refine ss_one (sd_as (sd_append (ds := acc.map dInts) (d := dInts (ssetI (rowS r h))) 4 (ev_own 4) (ev_totup (ev_sortA rfl (ev_val 6) (b_sorted c)) (b_tuple c)) ?hz) ?he)
      case hz =>
        rw [List.length_map]
        have : acc.length ≤ i := ha
        omega
      case he =>
        unfold addH
        rw [List.map_append] <;> rfl
  exact ss_one (sd_ret (as (ev_tup (ds := [dNexts (foldN r), dInts ((lotsS r).map (pic r.2))]) (ea_cons (ev_totup (ev_own 4) (b_tuple c)) (ea_cons (ev_totup (ds := ((lotsS r).map (pic r.2)).map Dt.int) (ev_comp (own := [("head", 5)]) rfl sc_folded_of.nd (ei_list (ev_val 2)) (blkOk_by (by kernel_rfl)) (noown rfl)
    (comp_allA Dt.int (fun h => Dt.int (pic r.2 h)) fun h hh => ⟨_, _, fun s H C cl fp => eg_name sc_folded_of.nd 5, by decide, rfl, fun s H C cl fp => ev_ixT (ev_ixT (ev_val 0) ev_int rfl) (ev_val 5) (at_pics g (Sx_rg g.n (lots_in g hh).1))⟩) (by rw [List.length_map]; omega)) (b_tuple c) (by show some (Dt.lst _) = _; rw [List.map_map] <;> rfl)) ea_nil)) (.dat (.dat .nil)) (by simp))))
theorem ok_folded : FnG P w K mg base (tabsOf tf tl K) 6 "folded" S_folded := by
  refine fn_DD c d_folded (g_folded c) sc_folded bi_folded (fun ds mu o ⟨_, h, _⟩ => by rw [h]; rfl) fun A outer s H E hr ds mu o h => ?_
  obtain ⟨r, rfl, g, rfl⟩ := h
  refine ⟨_, .ret, ?_⟩
  refine ss_cons (sd_expr (ev_call (ok_need_reel c) (hr.mono (by decide)) (ea_cons (ev_val 0) ea_nil) (.dat .nil) ⟨r.1, r.2, rfl, g, rfl⟩)) ?_
  exact ss_one (sd_ret (ev_call (ok_folded_of c) hr (ea_cons (ev_val 0) ea_nil) (.dat .nil) ⟨r, rfl, g, rfl⟩))
end
end K63

set_option Elab.async false
set_option linter.all false
set_option maxRecDepth 100000
set_option maxHeartbeats 4000000
namespace K63
open PySem PySem.Spec PyProof.Rows L2 Dl
section
variable {T : Tbs} {X : Cx} {G : List Cell} {mu mu1 : List Dt} {e : Expr} {pos : Pos} {i : Int}
theorem ev_neg (h : EvD T X G mu e (.dat (.int i)) mu1) : EvD T X G mu (.UnaryOp .USub e pos) (.dat (.int (-i))) mu1 :=
  pe_imp (pe_un un_neg h) fun sg H Q ⟨B, F, fi, e, q⟩ => ⟨B, F, fi, e, fun v F' fi' H' s p e' h' => by
    cases h'
    exact ⟨i, rfl, q _ F' fi' H' s p e' (.int _)⟩⟩
end
theorem nil_N (l : List Int) : PyData.eqv (Dt.lst (l.map .int)).py (Dt.lst []).py = l.isEmpty := by cases l <;> rfl
theorem eqv_P (a b : Pr) : PyData.eqv (tP a).py (tP b).py = decide (a = b) := by
  show ((a.1 == b.1) && ((a.2 == b.2) && true)) = _
  obtain ⟨a1, a2⟩ := a
  obtain ⟨b1, b2⟩ := b
  rw [Bool.and_true]
  by_cases h1 : a1 = b1
  · by_cases h2 : a2 = b2
    · simp [h1, h2]
    · simp [h2]
  · simp [h1]
theorem any_P (l : List Pr) (p : Pr) : (l.map tP).any (fun z => PyData.eqv z.py (tP p).py) = decide (p ∈ l) := by
  induction l with
  | nil => rfl
  | cons x l ih =>
    rw [List.map_cons, List.any_cons, ih, eqv_P]
    by_cases h : x = p
    · subst h
      simp
    · have h2 : ¬ p = x := fun e => h e.symm
      simp [h, h2]
theorem dep_P (n : Nat) (p : Pr) : (tP p).dep (n + 1) = true := by
  show ([Dt.int p.1, Dt.int p.2].all (Dt.dep n)) = true
  cases n <;> rfl
theorem dep_Ps (l : List Pr) : (Dt.lst (l.map tP)).dep 60 = true := by
  show (l.map tP).all (Dt.dep 59) = true
  rw [List.all_eq_true]
  intro d hd
  obtain ⟨p, _, rfl⟩ := List.mem_map.mp hd
  exact dep_P 58 p
def rowL (r : Reel) (s : Int) : List Pr := ((Sx r).filter fun m => decide (pic r.2 s = pic r.2 m)).map fun m => (s, m)
def addL (r : Reel) (acc : List Pr) (s : Int) : List Pr := acc ++ rowL r s
theorem addL_fold (r : Reel) : (Sx r).foldl (addL r) [] = leftL r 0 := foldl_flat _ _
def keepL0 (r : Reel) (L acc : List Pr) (p : Pr) : List Pr := if keptP r L p = true then acc ++ [p] else acc
theorem keep_fold (r : Reel) (L : List Pr) : L.foldl (keepL0 r L) [] = L.filter (keptP r L) := by
  have k : ∀ (l acc : List Pr), l.foldl (keepL0 r L) acc = acc ++ l.filter (keptP r L) := by
    intro l
    induction l with
    | nil => intro acc; simp
    | cons x l ih =>
      intro acc
      rw [List.foldl_cons, ih, List.filter_cons]
      unfold keepL0
      by_cases h : keptP r L x = true
      · rw [if_pos h, if_pos h, List.append_assoc] <;> rfl
      · rw [if_neg h, if_neg h]
  rw [k, List.nil_append]
def manyK (r : Reel) : Nat → Int
  | 0 => -1
  | k + 1 => ((leftL r k).length : Nat)
def stopK (r : Reel) (k : Nat) : Bool := decide (manyK r k = ((leftL r k).length : Nat))
theorem leftL_len {r : Reel} (g : GoodR r.1 r.2) : ∀ k, (leftL r k).length ≤ 36
  | 0 => left0_len g
  | k + 1 => Nat.le_trans (left_sub k).length_le (leftL_len g k)
theorem stop_last {r : Reel} (g : GoodR r.1 r.2) {k : Nat} (h : stopK r k = true) : leftL r k = leftL r 40 := by
  have h2 := of_decide_eq_true h
  cases k with
  | zero =>
    have h2 : (-1 : Int) = ((leftL r 0).length : Nat) := h2
    omega
  | succ k =>
    have h2 : ((leftL r k).length : Int) = ((leftL r (k + 1)).length : Nat) := h2
    have e : leftL r (k + 1) = leftL r k := (left_sub k).eq_of_length (by omega)
    have s1 := left_stay e
    have a1 := s1 (40 + 1)
    have a2 := left_stay (r := r) (i := 40) ((left_same g (by decide)).trans (left_same g (by decide)).symm) (k + 1)
    rw [show 40 + (k + 1) = k + (40 + 1) by omega] at a2
    rw [e, ← a1, a2]
theorem stop39 {r : Reel} (g : GoodR r.1 r.2) : stopK r 39 = true := by
  have e : leftL r 38 = leftL r 39 := (left_same g (by decide)).trans (left_same g (by decide)).symm
  unfold stopK
  rw [decide_eq_true_iff, ← e] <;> rfl
def S_pairsL : FSpec := fun ds mu o => ∃ r : Reel, ds = [dR r, .lst ((Sx r).map .int)] ∧ GoodR r.1 r.2 ∧ o = .ret (.dat (.lst ((leftL r 40).map tP))) mu
section
variable {P : Program} {w : World} {K : PySem.W.Frag} {mg : Str → Option Value} {base : Heap} (c : Fc fa fn tf tl K mg base)
include c
theorem ok_law_alike_pairs : FnG P w K mg base (tabsOf tf tl K) 1 "_law_alike_pairs" S_pairsL := by
  refine fn_DD c d_law_alike_pairs (g_law_alike_pairs c) sc_law_alike_pairs bi_law_alike_pairs (fun ds mu o ⟨_, h, _⟩ => by rw [h]; rfl) fun A outer s H E hr ds mu o h => ?_
  obtain ⟨r, rfl, g, rfl⟩ := h
  refine ⟨_, .ret, ?_⟩
  have l6 := (Sx_ok g.n).len g.n
  refine ss_cons (sd_set sc_law_alike_pairs.nd 2 (ev_give (ev_lst ea_nil .nil))) ?_
  refine ss_cons (G1 := [.val (dR r), .val (.lst ((Sx r).map .int)), .val (.lst ((leftL r 0).map tP)), .no, .no, .no, .no, .no, .no, .no, .no, .no]) (mu1 := mu) ?first ?_
  case first =>
    rw [← addL_fold]
    refine sd_for (passes_of rfl) rfl (ei_list (ev_val 1)) (for_mapN (C := fun acc : List Pr => [.val (dR r), .val (.lst ((Sx r).map .int)), .val (.lst (acc.map tP)), .no, .no, .no, .no, .no, .no, .no, .no, .no]) (fun _ => mu) Dt.int (addL r) (fun i acc => acc.length ≤ i * 6) 6 (Sx r) 0 [] (by omega) (Nat.le_refl _) fun i acc st hi ha hst => ⟨?len, _, _, [.val (dR r), .val (.lst ((Sx r).map .int)), .val (.lst ((addL r acc st).map tP)), .val (.int st), .no, .no, .no, .no, .no, .no, .no, .no], eg_name sc_law_alike_pairs.nd 3, ?stm, ?wk⟩)
    case wk => repeat (first | exact Wk.nil | refine Wk.same ?_ | refine Wk.no ?_)
    case len =>
      have h1 : ((Sx r).filter fun m => decide (pic r.2 st = pic r.2 m)).length ≤ (Sx r).length := List.length_filter_le _ _
      show (acc ++ rowL r st).length ≤ _
      rw [List.length_append, Nat.succ_mul]
      unfold rowL
      rw [List.length_map]
      have : acc.length ≤ i * 6 := ha
      omega
    case stm =>
      have h1 : ((Sx r).filter fun m => decide (pic r.2 st = pic r.2 m)).length ≤ (Sx r).length := List.length_filter_le _ _
      have hst1 := Sx_rg g.n hst
      refine ss_one (sd_as (sd_set (d := .lst (acc.map tP ++ (rowL r st).map tP)) sc_law_alike_pairs.nd 2 (ev_give (ev_addL (r2 := .new (.lst ((rowL r st).map tP))) (x := acc.map tP) (y := (rowL r st).map tP) (ev_val 2) (as (ev_comp (own := [("_law_mate", 4)]) rfl sc_law_alike_pairs.nd (ei_list (ev_val 1)) (blkOk_by (by kernel_rfl)) (noown rfl)
        (comp_filtA .int (fun m => tP (st, m)) (q := fun m => decide (pic r.2 st = pic r.2 m)) fun m hm => ⟨_, _, fun s H C cl fp => eg_name sc_law_alike_pairs.nd 4, by decide, rfl, fun s H C cl fp => ets_one (et_eqI (ev_ixT (ev_ixT (ev_val 0) ev_int rfl) (ev_val 3) (at_pics g hst1)) (ev_ixT (ev_ixT (ev_val 0) ev_int rfl) (ev_val 4) (at_pics g (Sx_rg g.n hm)))), fun _ s H C cl fp => ev_tup (ds := [.int st, .int m]) (ea_cons (ev_val 3) (ea_cons (ev_val 4) ea_nil)) (.dat (.dat .nil)) (by simp)⟩) ?rl) ?re) ?sz))) ?ae)
      case rl =>
        rw [List.length_map]
        omega
      case re =>
        unfold rowL
        rw [List.map_map] <;> rfl
      case sz =>
        unfold rowL
        have : acc.length ≤ i * 6 := ha
        rw [List.length_map, List.length_map, List.length_map, sizeLine_eq]
        omega
      case ae =>
        unfold addL
        rw [List.map_append] <;> rfl
  refine ss_cons (sd_set sc_law_alike_pairs.nd 5 (ev_neg ev_int)) ?_
  obtain ⟨w1, w2⟩ := iterW_P (step := fun k => k + 1) (stop := stopK r) (P := fun k => k ≤ 39) (meas := fun k => 39 - k) (fun k hk he => by
    have : k ≠ 39 := fun e => by rw [e, stop39 g] at he; cases he
    exact ⟨by omega, by omega⟩) 40 0 (by decide) (Nat.zero_le _)
  rw [← stop_last g w2]
  refine ss_cons (sd_while (n := 40) (passes_of rfl) (while_fuel (C := fun k : Nat => [.val (dR r), .val (.lst ((Sx r).map .int)), .val (.lst ((leftL r k).map tP)), .no, .no, .val (.int (manyK r k)), .no, .no, .no, .no, .no, .no]) (fun k => k + 1) (stopK r) (fun k => 39 - k) (fun k => k ≤ 39) (fun k hk => ?test) (fun k hk he => ?body) 40 0 (by decide) (Nat.zero_le _))) (ss_one (sd_ret (ev_val 2)))
  case test => exact et_neI (ev_val 5) (ev_len (ev_val 2) (b_len c) (.inl ⟨_, rfl, List.length_map ..⟩))
  case body =>
    obtain ⟨L, hL⟩ : ∃ L, L = leftL r k := ⟨_, rfl⟩
    have Ll : L.length ≤ 36 := by rw [hL]; exact leftL_len g k
    have Lm : ∀ p ∈ L, p.1 ∈ Sx r ∧ p.2 ∈ Sx r := fun p hp => by
      rw [hL] at hp
      obtain ⟨h1, h2, _⟩ := (left_iff g k p).mp hp
      exact ⟨h1, h2⟩
    have hne : k ≠ 39 := fun e => by rw [e, stop39 g] at he; cases he
    have hk : k ≤ 39 := hk
    have eN : leftL r (k + 1) = L.filter (keptP r L) := by rw [hL] <;> rfl
    have eM : manyK r (k + 1) = (L.length : Nat) := by rw [hL] <;> rfl
    refine ⟨by omega, by show 39 - (k + 1) < 39 - k; omega, [.val (dR r), .val (.lst ((Sx r).map .int)), .val (.lst ((L.filter (keptP r L)).map tP)), .no, .no, .val (.int (L.length : Nat)), .val (.lst ((L.filter (keptP r L)).map tP)), .no, .no, .no, .no, .no], ?_, ?wk⟩
    case wk =>
      show Wk [_, _, .val (.lst ((leftL r (k + 1)).map tP)), _, _, .val (.int (manyK r (k + 1))), _, _, _, _, _, _] _
      rw [eN, eM]
      repeat (first | exact Wk.nil | refine Wk.same ?_ | refine Wk.no ?_)
    show SDs _ _ _ [.val (dR r), .val (.lst ((Sx r).map .int)), .val (.lst ((leftL r k).map tP)), .no, .no, .val (.int (manyK r k)), .no, .no, .no, .no, .no, .no] mu _ _
    rw [← hL]
    refine ss_cons (G1 := [.val (dR r), .val (.lst ((Sx r).map .int)), .val (.lst (L.map tP)), .no, .no, .val (.int (L.length : Nat)), .own (.lst (([] : List Pr).map tP)), .no, .no, .no, .no, .no]) (mu1 := mu) (sd_parN rfl sc_law_alike_pairs.nd 5 6 (ev_len (ev_val 2) (b_len c) (.inl ⟨_, rfl, List.length_map ..⟩)) (ev_lst ea_nil .nil)) ?_
    refine ss_cons (G1 := [.val (dR r), .val (.lst ((Sx r).map .int)), .val (.lst (L.map tP)), .no, .no, .val (.int (L.length : Nat)), .own (.lst ((L.filter (keptP r L)).map tP)), .no, .no, .no, .no, .no]) (mu1 := mu) ?loop ?_
    case loop =>
      rw [← keep_fold]
      refine sd_for (passes_of rfl) rfl (ei_list (ev_val 2)) (for_mapN (C := fun acc : List Pr => [.val (dR r), .val (.lst ((Sx r).map .int)), .val (.lst (L.map tP)), .no, .no, .val (.int (L.length : Nat)), .own (.lst (acc.map tP)), .no, .no, .no, .no, .no]) (fun _ => mu) tP (keepL0 r L) (fun i acc => acc.length ≤ i) 36 L 0 [] (by omega) (Nat.le_refl _) fun i acc p hi ha hp => ⟨?len, _, _, [.val (dR r), .val (.lst ((Sx r).map .int)), .val (.lst (L.map tP)), .no, .no, .val (.int (L.length : Nat)), .own (.lst ((keepL0 r L acc p).map tP)), .no, .no, .no, .no, .no], eg_tup rfl (egs_cons (eg_name sc_law_alike_pairs.nd 3) (egs_cons (eg_name sc_law_alike_pairs.nd 4) egs_nil)), ?stm, ?wk2⟩)
      case wk2 => repeat (first | exact Wk.nil | refine Wk.same ?_ | refine Wk.no ?_)
      case len =>
        unfold keepL0
        have : acc.length ≤ i := ha
        by_cases h : keptP r L p = true
        · rw [if_pos h, List.length_append]
          show acc.length + 1 ≤ i + 1
          omega
        · rw [if_neg h]
          omega
      case stm =>
        obtain ⟨m1, m2⟩ := Lm p hp
        have r1 := Sx_rg g.n m1
        have r2 := Sx_rg g.n m2
        have n1 := nxt_len g.n r1
        have n2 := nxt_len g.n r2
        have ha : acc.length ≤ i := ha
        obtain ⟨l1, hl1⟩ : ∃ l1, l1 = (nxt r.1 p.1).filter fun a => ((nxt r.1 p.2).filter fun b => decide ((a, b) ∈ L)).isEmpty := ⟨_, rfl⟩
        obtain ⟨l2, hl2⟩ : ∃ l2, l2 = (nxt r.1 p.2).filter fun b => ((nxt r.1 p.1).filter fun a => decide ((a, b) ∈ L)).isEmpty := ⟨_, rfl⟩
        have ek : keptP r L p = (l1.isEmpty && l2.isEmpty) := by rw [hl1, hl2] <;> rfl
        refine ss_weak (G1 := [.val (dR r), .val (.lst ((Sx r).map .int)), .val (.lst (L.map tP)), .val (.int p.1), .val (.int p.2), .val (.int (L.length : Nat)), .own (.lst ((keepL0 r L acc p).map tP)), .val (dInts (nxt r.1 p.1)), .val (dInts (nxt r.1 p.2)), .val (.lst (l1.map .int)), .no, .no]) ?blk ?wkn
        case wkn => repeat (first | exact Wk.nil | refine Wk.same ?_ | refine Wk.no ?_)
        case blk =>
          refine ss_cons (sd_asg (d := .tup [dInts (nxt r.1 p.1), dInts (nxt r.1 p.2)]) (ev_tup (ds := [dInts (nxt r.1 p.1), dInts (nxt r.1 p.2)]) (ea_cons (ev_ixT (ev_ixT (ev_val 0) ev_int rfl) (ev_val 3) (at_nexts r1)) (ea_cons (ev_ixT (ev_ixT (ev_val 0) ev_int rfl) (ev_val 4) (at_nexts r2)) ea_nil)) (.dat (.dat .nil)) (by simp)) (eg_tup rfl (egs_cons (eg_name sc_law_alike_pairs.nd 7) (egs_cons (eg_name sc_law_alike_pairs.nd 8) egs_nil)))) ?_
          refine ss_cons (G1 := [.val (dR r), .val (.lst ((Sx r).map .int)), .val (.lst (L.map tP)), .val (.int p.1), .val (.int p.2), .val (.int (L.length : Nat)), .own (.lst (acc.map tP)), .val (dInts (nxt r.1 p.1)), .val (dInts (nxt r.1 p.2)), .val (.lst (l1.map .int)), .no, .no]) (mu1 := mu) ?lost ?_
          case lost =>
            rw [hl1]
            refine sd_compV (own := [("_law_one", 10)]) rfl sc_law_alike_pairs.nd 9 (ei_tup (ev_val 7)) (blkOk_by (by kernel_rfl)) (noown rfl)
              (comp_filtA .int .int (q := fun a => ((nxt r.1 p.2).filter fun b => decide ((a, b) ∈ L)).isEmpty) fun a ha => ⟨_, _, fun s H C cl fp => eg_name sc_law_alike_pairs.nd 10, by decide, rfl, fun s H C cl fp => ets_one ?tst, fun _ s H C cl fp => ev_val 10⟩) ?fl
            case fl =>
              rw [List.length_map]
              exact Nat.lt_of_le_of_lt (List.length_filter_le _ _) (by omega)
            case tst =>
              refine et_eq (k := ((nxt r.1 p.2).filter fun b => decide ((a, b) ∈ L)).isEmpty) ?u1 (r1 := .new (.lst (((nxt r.1 p.2).filter fun b => decide ((a, b) ∈ L)).map .int))) ?inner (ev_lst ea_nil .nil) (nil_N _) (dep_ints 59 _) rfl
              case u1 => exact hr.units
              case inner =>
                refine ev_comp (own := [("_law_two", 11)]) rfl sc_law_alike_pairs.nd (ei_tup (ev_val 8)) (blkOk_by (by kernel_rfl)) (noown rfl)
                  (comp_filtA .int .int (q := fun b => decide ((a, b) ∈ L)) fun b hb => ⟨_, _, fun s H C cl fp => eg_name sc_law_alike_pairs.nd 11, by decide, rfl, fun s H C cl fp => ets_one ?tst2, fun _ s H C cl fp => ev_val 11⟩) ?fl2
                case fl2 =>
                  rw [List.length_map]
                  exact Nat.lt_of_le_of_lt (List.length_filter_le _ _) (by omega)
                case tst2 =>
                  refine et_in (d1 := tP (a, b)) ?u3 (ev_tup (ds := [.int a, .int b]) (ea_cons (ev_val 10) (ea_cons (ev_val 11) ea_nil)) (.dat (.dat .nil)) (by simp)) (ev_val 2) (any_P L (a, b)) (dep_P 59 (a, b)) (dep_Ps L)
                  case u3 => exact units65 hr
          refine ss_one (sifB (k := l1.isEmpty && l2.isEmpty) (et_w (ew_and (et_eq ?u4 (ev_val 9) (ev_lst ea_nil .nil) (nil_N _) (dep_ints 59 _) rfl) fun _ => ew_and1 (et_eq (k := l2.isEmpty) ?u5 (r1 := .new (.lst (l2.map .int))) ?inner3 (ev_lst ea_nil .nil) (nil_N _) (dep_ints 59 _) rfl))) (fun hb => ?yes) (fun hb => ?no))
          case u4 => exact hr.units
          case u5 => exact hr.units
          case yes =>
            have e : keepL0 r L acc p = acc ++ [p] := if_pos (ek.trans hb)
            rw [e]
            refine ss_one (sd_as (sd_append (ds := acc.map tP) (d := tP p) 6 (ev_own 6) (ev_tup (ds := [.int p.1, .int p.2]) (ea_cons (ev_val 3) (ea_cons (ev_val 4) ea_nil)) (.dat (.dat .nil)) (by simp)) ?hz) ?he)
            case hz =>
              rw [List.length_map]
              omega
            case he => rw [List.map_append] <;> rfl
          case no =>
            have e : keepL0 r L acc p = acc := if_neg (by rw [ek, hb]; decide)
            rw [e]
            exact ss_nil
          case inner3 =>
            rw [hl2]
            refine ev_comp (own := [("_law_two", 11)]) rfl sc_law_alike_pairs.nd (ei_tup (ev_val 8)) (blkOk_by (by kernel_rfl)) (noown rfl)
              (comp_filtA .int .int (q := fun b => ((nxt r.1 p.1).filter fun a => decide ((a, b) ∈ L)).isEmpty) fun b hb => ⟨_, _, fun s H C cl fp => eg_name sc_law_alike_pairs.nd 11, by decide, rfl, fun s H C cl fp => ets_one ?tst3, fun _ s H C cl fp => ev_val 11⟩) ?fl3
            case fl3 =>
              rw [List.length_map]
              exact Nat.lt_of_le_of_lt (List.length_filter_le _ _) (by omega)
            case tst3 =>
              refine et_eq (k := ((nxt r.1 p.1).filter fun a => decide ((a, b) ∈ L)).isEmpty) ?u6 (r1 := .new (.lst (((nxt r.1 p.1).filter fun a => decide ((a, b) ∈ L)).map .int))) ?inner4 (ev_lst ea_nil .nil) (nil_N _) (dep_ints 59 _) rfl
              case u6 => exact hr.units
              case inner4 =>
                refine ev_comp (own := [("_law_one", 10)]) rfl sc_law_alike_pairs.nd (ei_tup (ev_val 7)) (blkOk_by (by kernel_rfl)) (noown rfl)
                  (comp_filtA .int .int (q := fun a => decide ((a, b) ∈ L)) fun a ha => ⟨_, _, fun s H C cl fp => eg_name sc_law_alike_pairs.nd 10, by decide, rfl, fun s H C cl fp => ets_one ?tst4, fun _ s H C cl fp => ev_val 10⟩) ?fl4
                case fl4 =>
                  rw [List.length_map]
                  exact Nat.lt_of_le_of_lt (List.length_filter_le _ _) (by omega)
                case tst4 =>
                  refine et_in (d1 := tP (a, b)) ?u7 (ev_tup (ds := [.int a, .int b]) (ea_cons (ev_val 10) (ea_cons (ev_val 11) ea_nil)) (.dat (.dat .nil)) (by simp)) (ev_val 2) (any_P L (a, b)) (dep_P 59 (a, b)) (dep_Ps L)
                  case u7 => exact units65 hr
    refine ss_giveUp 6 rfl ?_
    exact ss_one (sd_set sc_law_alike_pairs.nd 2 (ev_val 6))
end
end K63

set_option Elab.async false
set_option linter.all false
set_option maxRecDepth 100000
set_option maxHeartbeats 4000000
namespace K63
open PySem PySem.Spec PyProof.Rows L2 Dl
section
variable {T : Tbs} {X : Cx} {G : List Cell} {mu mu1 mu2 : List Dt} {a b : Expr} {x y : Bool} {pos : Pos}
theorem et_isnB (ha : EvD T X G mu a (.dat (.bl x)) mu1) (hb : EvD T X G mu1 b (.dat (.bl y)) mu2) (hm : behindInMarks .IsNot b = false := by rfl) : EvT T X G mu (.Compare a [.IsNot] [b] pos) (!decide (x = y)) mu2 :=
  et_cmp op_notBl (op2_val (d1 := .bl x) (d2 := .bl y) rfl rfl fun F fi H v u Q s h1 h2 q => ⟨x, y, h1.bl, h2.bl, q _ (.bl _)⟩) hm ha hb
end
/-! ### the draws -/
def row0 : Row := ⟨0, 9163, 0⟩
def qOf (t : Int) : Int := (([1, 2, 2, 3] : List Int)[t.toNat]?).getD 0
theorem four {t : Int} (h : 0 ≤ t ∧ t < 4) : t = 0 ∨ t = 1 ∨ t = 2 ∨ t = 3 := by omega
theorem qOf_at {t : Int} (h : 0 ≤ t ∧ t < 4) : atI [Dt.int 1, .int 2, .int 2, .int 3] t = some (.int (qOf t)) := by
  rcases four h with e | e | e | e <;> (rw [e]; rfl)
theorem qOf_rg {t : Int} (h : 0 ≤ t ∧ t < 4) : 0 < qOf t ∧ qOf t ≤ 100 := by
  rcases four h with e | e | e | e <;> (rw [e]; decide)
def q1 (ns : List Int) : Int × Row := (qOf (tk ns row0 4).1, (tk ns row0 4).2)
def oneS (ns : List Int) : Reel × Row := reelS ns (q1 ns).2 6 (q1 ns).1
def gp (ns : List Int) : Option Int × Row := gapS ns (oneS ns).2
def othS (ns : List Int) : Reel × Row := reelS ns (gp ns).2 4 2
theorem q1_ok (ns : List Int) : (0 < (q1 ns).1 ∧ (q1 ns).1 ≤ 100) ∧ 0 ≤ (q1 ns).2.i := ⟨qOf_rg (tk_rg (by decide)), tk_i (Int.le_refl _)⟩
theorem oneS_ok (ns : List Int) : GoodR (oneS ns).1.1 (oneS ns).1.2 ∧ 0 ≤ (oneS ns).2.i := reelS_ok (q1_ok ns).2 (by decide) (by decide) (q1_ok ns).1.1 (q1_ok ns).1.2
theorem gp_ok (ns : List Int) : GoodG (gp ns).1 ∧ 0 ≤ (gp ns).2.i := ⟨gapOf_ok (tk_rg (by decide)), tk_i (oneS_ok ns).2⟩
theorem othS_ok (ns : List Int) : GoodR (othS ns).1.1 (othS ns).1.2 ∧ 0 ≤ (othS ns).2.i := reelS_ok (gp_ok ns).2 (by decide) (by decide) (by decide) (by decide)
def lenF (ns : List Int) (r : Row) : Nat := (1 + (tk ns r 4).1).toNat
def filmD (ns : List Int) (r : Row) : List Int × Row := runG (pic1 ns 3) (upToN (lenF ns r)) (tk ns r 4).2
def rowE (ns : List Int) : Row := (filmD ns (othS ns).2).2
def S_law : FSpec := fun ds mu o => ∃ ns, ds = [.scr ns] ∧ mu = [] ∧ o = .ret (.dat (.bl true)) [dRow ns (rowE ns)]
theorem plain_int {n : Nat} {i : Int} : plainD n (.int i) = true := by cases n <;> rfl
theorem plain_tup {n : Nat} {ds : List Dt} (h : ds.length < 1000000) (k : ∀ d ∈ ds, plainD n d = true) : plainD (n + 1) (.tup ds) = true := by
  show (decide (ds.length < 1000000) && ds.all (plainD n)) = true
  rw [decide_eq_true h, Bool.true_and, List.all_eq_true]
  exact k
theorem plain_ints {n : Nat} {l : List Int} (h : l.length < 1000000) : plainD (n + 1) (dInts l) = true :=
  plain_tup (by rw [List.length_map]; exact h) fun d hd => by
    obtain ⟨x, _, rfl⟩ := List.mem_map.mp hd
    exact plain_int
theorem plain_R {r : Reel} (g : GoodR r.1 r.2) : plainD 3 (dR r) = true := by
  have h1 := g.n.hi
  have h2 := g.len
  refine plain_tup (by simp) fun d hd => ?_
  rcases List.mem_cons.mp hd with rfl | hd
  · refine plain_tup (by rw [List.length_map]; omega) fun d hd => ?_
    obtain ⟨l, hl, rfl⟩ := List.mem_map.mp hd
    have := up_len (g.n.up l hl) (g.n.rg l hl)
    exact plain_ints (by omega)
  · rw [List.mem_singleton.mp hd]
    exact plain_ints (by omega)
theorem eqv_Is (l : List Int) : PyData.eqv (dInts l).py (dInts l).py = true := (eqv_I l l).trans (decide_eq_true rfl)
theorem eqv_Ns : ∀ l : List (List Int), PyData.eqvAll (Dt.pyAll (l.map dInts)) (Dt.pyAll (l.map dInts)) = true
  | [] => rfl
  | x :: l => by
    show (PyData.eqv (dInts x).py (dInts x).py && PyData.eqvAll (Dt.pyAll (l.map dInts)) (Dt.pyAll (l.map dInts))) = true
    rw [eqv_Is, eqv_Ns l] <;> rfl
theorem eqv_R (r : Reel) : PyData.eqv (dR r).py (dR r).py = true := by
  show (PyData.eqvAll (Dt.pyAll (r.1.map dInts)) (Dt.pyAll (r.1.map dInts)) && (PyData.eqv (dInts r.2).py (dInts r.2).py && true)) = true
  rw [eqv_Ns, eqv_Is] <;> rfl
theorem dep_R (r : Reel) : (dR r).dep 60 = true := by
  have h1 : (dNexts r.1).dep 59 = true := by
    show (r.1.map dInts).all (Dt.dep 58) = true
    rw [List.all_eq_true]
    intro d hd
    obtain ⟨k, _, rfl⟩ := List.mem_map.mp hd
    exact dep_intsT 57 k
  have h2 : (dInts r.2).dep 59 = true := dep_intsT 58 r.2
  show ([dNexts r.1, dInts r.2].all (Dt.dep 59)) = true
  simp only [List.all_cons, List.all_nil, Bool.and_true]
  rw [h1, h2] <;> rfl
def addS (r : Reel) (h : Int) (acc : List Int) (s : Int) : List Int := if hS r s = h then acc ++ (nxt r.1 s).map (toP r) else acc
theorem addS_fold (r : Reel) (h : Int) : (Sx r).foldl (addS r h) [] = rowS r h := by
  have k : ∀ (l acc : List Int), l.foldl (addS r h) acc = acc ++ (l.filter fun s => decide (hS r s = h)).flatMap fun s => (nxt r.1 s).map (toP r) := by
    intro l
    induction l with
    | nil => intro acc; simp
    | cons x l ih =>
      intro acc
      rw [List.foldl_cons, ih, List.filter_cons]
      unfold addS
      by_cases e : hS r x = h
      · rw [if_pos e, if_pos (decide_eq_true e), List.flatMap_cons, List.append_assoc]
      · rw [if_neg e, if_neg (by rw [decide_eq_false e]; decide)]
  rw [k, List.nil_append] <;> rfl
theorem keysI_nd {r : Reel} (g : GoodN r.1) : ((imL r (hS r)).map (·.1)).Nodup := by
  have e : (imL r (hS r)).map (·.1) = Sx r := by
    unfold imL
    rw [List.map_map]
    exact List.map_id' _
  rw [e]
  exact (Sx_ok g).up.imp fun h => by omega
section
variable {P : Program} {w : World} {K : PySem.W.Frag} {mg : Str → Option Value} {base : Heap} (c : Fc fa fn tf tl K mg base)
include c
set_option maxHeartbeats 16000000 in
theorem ok_law {fd : FuncData} (F : FunD K "law" "law" (defArgs s_law) (defBody s_law) (defScope s_law) [] [] (He.fAd K ("law", none)) fd) : FnOk P w K mg base (L2.CX P w) 9 (He.fAd K ("law", none)) fd ["_law_script"] (spD K (tabsOf tf tl K) S_law) := by
  refine fnOk_DD F sc_law (fun ds mu o ⟨_, h, _⟩ => by rw [h]; rfl) fun A outer s H E hr ds mu o h => ?_
  obtain ⟨ns, rfl, rfl, rfl⟩ := h
  refine ⟨_, .ret, ?_⟩
  obtain ⟨q1r, q1i⟩ := q1_ok ns
  obtain ⟨g, i1⟩ := oneS_ok ns
  obtain ⟨gg, i2⟩ := gp_ok ns
  obtain ⟨g2, i3⟩ := othS_ok ns
  have b4 := tk_rg (ns := ns) (r := row0) (m := 4) (by decide)
  have hu1 : (cxF P w K mg base n_law "law" s_law A outer s H E).A.units + 1 < cLine := by
    have := hr.units
    omega
  refine ss_cons (sd_set sc_law.nd 1 (ev_share (ev_lst (ds := [.scr ns, .int 0, .int 9163, .int 0]) (ea_cons (ev_val 0) (ea_cons ev_int (ea_cons ev_int (ea_cons ev_int ea_nil)))) (.dat (.dat (.dat (.dat .nil)))) (by simp)))) ?_
  refine ss_cons (mu1 := [dRow ns (oneS ns).2]) (sd_set (d := dR (oneS ns).1) sc_law.nd 2 (ev_call (rs := [.dat (.ptr 0), .dat (.int 6), .dat (.int (q1 ns).1)]) (ok_law_reel c) (hr.mono (by decide)) (ea_cons (ev_val 1) (ea_cons ev_int (ea_cons (ev_call (ok_pick c) (hr.mono (by decide)) (ea_cons (ev_val 1) (ea_cons (ev_lst (ds := [.int 1, .int 2, .int 2, .int 3]) (ea_cons ev_int (ea_cons ev_int (ea_cons ev_int (ea_cons ev_int ea_nil)))) (.dat (.dat (.dat (.dat .nil)))) (by simp)) ea_nil)) (.dat (.new .nil)) ⟨ns, row0, [.int 1, .int 2, .int 2, .int 3], .int (q1 ns).1, rfl, rfl, Int.le_refl _, by decide, by decide, qOf_at b4, rfl⟩) ea_nil))) (.dat (.dat (.dat .nil))) ⟨ns, (q1 ns).2, 6, (q1 ns).1, rfl, rfl, q1i, by decide, by decide, q1r.1, q1r.2, rfl⟩)) ?_
  have erow : rowE ns = (filmD ns (othS ns).2).2 := rfl
  have eoth : othS ns = reelS ns (gapS ns (oneS ns).2).2 4 2 := rfl
  have egp : gp ns = gapS ns (oneS ns).2 := rfl
  rw [erow]
  rw [egp] at gg i2
  rw [eoth] at g2 i3 ⊢
  clear erow eoth egp q1r q1i b4
  generalize (oneS ns).2 = r0 at i1 i2 i3 gg g2 ⊢
  generalize (oneS ns).1 = r at g ⊢
  have l6 := (Sx_ok g.n).len g.n
  have ll := lots_len g
  have LL := leftL_len g 40
  refine ss_cons (G1 := [.val (.scr ns), .val (.ptr 0), .val (dR r), .val (.lst ((Sx r).map .int)), .no, .no, .no, .no, .no, .no, .no, .no, .no, .no, .no, .no, .no, .no, .no, .no]) (mu1 := [dRow ns r0]) (sd_set (d := .lst ((Sx r).map .int)) sc_law.nd 3 (ev_give (as (ev_sorted (ns := lwith r.1 [0] none) (ev_call (ok_law_within c) (hr.mono (by decide)) (ea_cons (ev_val 2) (ea_cons (ev_lst (ds := [.int 0]) (ea_cons ev_int ea_nil) (.dat .nil) (by simp)) (ea_cons ev_non ea_nil))) (.dat (.new (.dat .nil))) ⟨r.1, r.2, [0], none, rfl, g.n, .zero g.n, fun g h => (nomatch h), rfl⟩) (b_sorted c) rfl) (by rw [Sx_law g.n])))) ?_
  refine ss_cons (mu1 := [dRow ns r0]) (sd_set (d := .lst ((leftL r 40).map tP)) sc_law.nd 4 (ev_call (ok_law_alike_pairs c) (hr.mono (by decide)) (ea_cons (ev_val 2) (ea_cons (ev_val 3) ea_nil)) (.dat (.dat .nil)) ⟨r, rfl, g, rfl⟩)) ?_
  refine ss_cons (G1 := [.val (.scr ns), .val (.ptr 0), .val (dR r), .val (.lst ((Sx r).map .int)), .val (.lst ((leftL r 40).map tP)), .val (dicK (ids (imL r (hS r)))), .no, .no, .no, .no, .no, .no, .no, .no, .no, .no, .no, .no, .no, .no]) (mu1 := [dRow ns r0]) ?heads ?_
  case heads =>
    refine sd_set sc_law.nd 5 (ev_give (ev_dictP (kvs := imL r (hS r)) rfl (ev_comp (own := [("_law_state", 8)]) rfl sc_law.nd (ei_list (ev_val 3)) (blkOk_by (by kernel_rfl)) (noown rfl)
      (comp_allA Dt.int (fun s => Dt.tup [.int s, .int (hS r s)]) fun s hs => ⟨_, _, fun s H C cl fp => eg_name sc_law.nd 8, by decide, rfl, fun _ H C cl fp => ev_tup (ds := [.int s, .int (hS r s)]) (ea_cons (ev_val 8) (ea_cons ?least ea_nil)) (.dat (.dat .nil)) (by simp)⟩) ?hl) (b_dict c) (keysI_nd g.n) ?lk))
    case hl =>
      rw [List.length_map]
      omega
    case lk =>
      unfold imL
      show some (Dt.lst _) = _
      rw [List.map_map] <;> rfl
    case least =>
      have fl : ((leftL r 40).filter fun p => decide (p.1 = s)).length ≤ (leftL r 40).length := List.length_filter_le _ _
      refine asD (ev_minL rfl (ns := ((leftL r 40).filter fun p => decide (p.1 = s)).map (·.2)) (ev_comp (own := [("_law_one", 6), ("_law_mate", 7)]) rfl sc_law.nd (ei_list (ev_val 4)) (blkOk_by (by kernel_rfl)) (noown rfl)
        (comp_filtA tP (fun p => Dt.int p.2) (q := fun p => decide (p.1 = s)) fun p hp => ⟨_, _, fun _ H C cl fp => eg_tup rfl (egs_cons (eg_name sc_law.nd 6) (egs_cons (eg_name sc_law.nd 7) egs_nil)), by decide, rfl, fun _ H C cl fp => ets_one (et_eqI (ev_val 6) (ev_val 8)), fun _ _ H C cl fp => ev_val 7⟩) ?fl) (b_min c) ?ne ?lk2) (by rw [head_law g (by decide) hs])
      case fl =>
        rw [List.length_map]
        omega
      case ne => exact List.ne_nil_of_mem (List.mem_map.mpr ⟨(s, s), List.mem_filter.mpr ⟨(left_BB g (by decide)).mpr ⟨hs, hs, BB.refl _⟩, decide_eq_true rfl⟩, rfl⟩)
      case lk2 =>
        show some (Dt.lst _) = _
        rw [List.map_map] <;> rfl
  refine ss_cons (G1 := [.val (.scr ns), .val (.ptr 0), .val (dR r), .val (.lst ((Sx r).map .int)), .val (.lst ((leftL r 40).map tP)), .val (dicK (ids (imL r (hS r)))), .no, .no, .no, .val (.lst ((lotsS r).map .int)), .no, .no, .no, .no, .no, .no, .no, .no, .no, .no]) (mu1 := [dRow ns r0]) ?lots ?_
  case lots =>
    rw [lots_eq]
    exact sd_set sc_law.nd 9 (ev_give (ev_sortset rfl (ns := (Sx r).map (hS r)) (ev_comp (own := [("_law_state", 8)]) rfl sc_law.nd (ei_list (ev_val 3)) (blkOk_by (by kernel_rfl)) (noown rfl)
      (comp_allA Dt.int (fun s => Dt.int (hS r s)) fun t ht => ⟨_, _, fun s H C cl fp => eg_name sc_law.nd 8, by decide, rfl, fun s H C cl fp => ev_dgetK (k := .inl t) hu1 (ev_val 5) (ev_val 8) (im_get ht)⟩) (by rw [List.length_map]; omega)) (b_sorted c) (b_set c) (by rw [List.length_map]; omega) (by show some (Dt.lst _) = _; rw [List.map_map] <;> rfl)))
  refine ss_cons (sd_setN sc_law.nd 10 (ev_lst ea_nil .nil)) ?_
  refine ss_cons (G1 := [.val (.scr ns), .val (.ptr 0), .val (dR r), .val (.lst ((Sx r).map .int)), .val (.lst ((leftL r 40).map tP)), .val (dicK (ids (imL r (hS r)))), .no, .no, .no, .val (.lst ((lotsS r).map .int)), .own (.lst ((foldN r).map dInts)), .no, .no, .no, .no, .no, .no, .no, .no, .no]) (mu1 := [dRow ns r0]) ?loop ?_
  case loop =>
    rw [← addH_fold]
    refine sd_for (passes_of rfl) rfl (ei_list (ev_val 9)) (for_mapN (C := fun acc : List (List Int) => [.val (.scr ns), .val (.ptr 0), .val (dR r), .val (.lst ((Sx r).map .int)), .val (.lst ((leftL r 40).map tP)), .val (dicK (ids (imL r (hS r)))), .no, .no, .no, .val (.lst ((lotsS r).map .int)), .own (.lst (acc.map dInts)), .no, .no, .no, .no, .no, .no, .no, .no, .no]) (fun _ => [dRow ns r0]) Dt.int (addH r) (fun i acc => acc.length ≤ i) 6 (lotsS r) 0 [] (by omega) (Nat.le_refl _) fun i acc h hi ha hh => ⟨?len, _, _, [.val (.scr ns), .val (.ptr 0), .val (dR r), .val (.lst ((Sx r).map .int)), .val (.lst ((leftL r 40).map tP)), .val (dicK (ids (imL r (hS r)))), .no, .no, .no, .val (.lst ((lotsS r).map .int)), .own (.lst ((addH r acc h).map dInts)), .val (.int h), .val (.lst ((rowS r h).map .int)), .no, .no, .no, .no, .no, .no, .no], eg_name sc_law.nd 11, ?st, ?wk⟩)
    case len =>
      show (acc ++ [ssetI (rowS r h)]).length ≤ i + 1
      rw [List.length_append]
      show acc.length + 1 ≤ i + 1
      omega
    case wk => repeat (first | exact Wk.nil | refine Wk.same ?_ | refine Wk.no ?_)
    case st =>
      have rl := rowS_len g.n h
      have ha : acc.length ≤ i := ha
      refine ss_cons (sd_set sc_law.nd 12 (ev_give (ev_lst ea_nil .nil))) ?_
      refine ss_cons (G1 := [.val (.scr ns), .val (.ptr 0), .val (dR r), .val (.lst ((Sx r).map .int)), .val (.lst ((leftL r 40).map tP)), .val (dicK (ids (imL r (hS r)))), .no, .no, .no, .val (.lst ((lotsS r).map .int)), .own (.lst (acc.map dInts)), .val (.int h), .val (.lst ((rowS r h).map .int)), .no, .no, .no, .no, .no, .no, .no]) (mu1 := [dRow ns r0]) ?inner ?_
      case inner =>
        rw [← addS_fold]
        refine sd_for (passes_of rfl) rfl (ei_list (ev_val 3)) (for_mapN (C := fun ac : List Int => [.val (.scr ns), .val (.ptr 0), .val (dR r), .val (.lst ((Sx r).map .int)), .val (.lst ((leftL r 40).map tP)), .val (dicK (ids (imL r (hS r)))), .no, .no, .no, .val (.lst ((lotsS r).map .int)), .own (.lst (acc.map dInts)), .val (.int h), .val (.lst (ac.map .int)), .no, .no, .no, .no, .no, .no, .no]) (fun _ => [dRow ns r0]) Dt.int (addS r h) (fun j ac => ac.length ≤ j * 6) 6 (Sx r) 0 [] (by omega) (Nat.le_refl _) fun j ac st hj hac hst => ⟨?len2, _, _, [.val (.scr ns), .val (.ptr 0), .val (dR r), .val (.lst ((Sx r).map .int)), .val (.lst ((leftL r 40).map tP)), .val (dicK (ids (imL r (hS r)))), .no, .no, .val (.int st), .val (.lst ((lotsS r).map .int)), .own (.lst (acc.map dInts)), .val (.int h), .val (.lst ((addS r h ac st).map .int)), .no, .no, .no, .no, .no, .no, .no], eg_name sc_law.nd 8, ?st2, ?wk2⟩)
        case wk2 => repeat (first | exact Wk.nil | refine Wk.same ?_ | refine Wk.no ?_)
        case len2 =>
          have hac : ac.length ≤ j * 6 := hac
          have nl := nxt_len g.n (Sx_rg g.n hst)
          unfold addS
          rw [Nat.succ_mul]
          split
          · rw [List.length_append, List.length_map]
            omega
          · omega
        case st2 =>
          have hac : ac.length ≤ j * 6 := hac
          have sr := Sx_rg g.n hst
          have nl := nxt_len g.n sr
          refine ss_one (sifB (k := decide (hS r st = h)) (et_eqI (ev_dgetK (k := .inl st) hu1 (ev_val 5) (ev_val 8) (im_get hst)) (ev_val 11)) (fun hb => ?yes) (fun hb => ?no))
          case no =>
            have e : addS r h ac st = ac := if_neg (of_decide_eq_false hb)
            rw [e]
            exact ss_nil
          case yes =>
            have e : addS r h ac st = ac ++ (nxt r.1 st).map (toP r) := if_pos (of_decide_eq_true hb)
            rw [e]
            refine ss_one (sd_as (sd_set (d := .lst (ac.map .int ++ ((nxt r.1 st).map (toP r)).map .int)) sc_law.nd 12 (ev_give (ev_addL (r2 := .new (.lst ((nxt r.1 st).map fun t => Dt.int (toP r t)))) (x := ac.map .int) (y := ((nxt r.1 st).map (toP r)).map .int) (ev_val 12) (ev_comp (own := [("_law_there", 13)]) rfl sc_law.nd (ei_tup (ev_ixT (ev_ixT (ev_val 2) ev_int rfl) (ev_val 8) (at_nexts sr))) (blkOk_by (by kernel_rfl)) (noown rfl)
              (comp_allA Dt.int (fun t => Dt.int (toP r t)) fun t ht => ⟨_, _, fun s H C cl fp => eg_name sc_law.nd 13, by decide, rfl, fun s H C cl fp => ev_index (ev_val 9) (ev_dgetK (k := .inl t) hu1 (ev_val 5) (ev_val 13) (im_get (Sx_next g.n hst ht))) (posI_at (lot_mem (Sx_next g.n hst ht))) fun m hm => posI_first hm⟩) ?cl) ?sz rfl ?l2))) ?ae)
            case cl =>
              rw [List.length_map]
              omega
            case sz =>
              rw [List.length_map, List.length_map, List.length_map, sizeLine_eq]
              omega
            case l2 =>
              show some (Dt.lst _) = _
              rw [List.map_map] <;> rfl
            case ae => rw [List.map_append] <;> rfl
      refine ss_one (sd_as (sd_append (ds := acc.map dInts) (d := dInts (ssetI (rowS r h))) 10 (ev_own 10) (ev_totup (ev_sortset rfl (ns := rowS r h) (ev_val 12) (b_sorted c) (b_set c) (by omega) rfl) (b_tuple c)) ?hz) ?he)
      case hz =>
        rw [List.length_map]
        omega
      case he =>
        unfold addH
        rw [List.map_append] <;> rfl
  refine ss_giveUp 10 rfl ?_
  refine ss_cons (G1 := [.val (.scr ns), .val (.ptr 0), .val (dR r), .val (.lst ((Sx r).map .int)), .val (.lst ((leftL r 40).map tP)), .val (dicK (ids (imL r (hS r)))), .no, .no, .no, .val (.lst ((lotsS r).map .int)), .val (.lst ((foldN r).map dInts)), .no, .no, .no, .val (dR (foldR r)), .no, .no, .no, .no, .no]) (mu1 := [dRow ns r0]) (sd_set (d := dR (foldR r)) sc_law.nd 14 (asD (ev_tup (ds := [dNexts (foldN r), dInts ((lotsS r).map (pic r.2))]) (ea_cons (ev_totup (ev_val 10) (b_tuple c)) (ea_cons (ev_totup (ds := ((lotsS r).map (pic r.2)).map Dt.int) (ev_comp (own := [("_law_head", 11)]) rfl sc_law.nd (ei_list (ev_val 9)) (blkOk_by (by kernel_rfl)) (noown rfl)
    (comp_allA Dt.int (fun h => Dt.int (pic r.2 h)) fun h hh => ⟨_, _, fun s H C cl fp => eg_name sc_law.nd 11, by decide, rfl, fun s H C cl fp => ev_ixT (ev_ixT (ev_val 2) ev_int rfl) (ev_val 11) (at_pics g (Sx_rg g.n (lots_in g hh).1))⟩) (by rw [List.length_map]; omega)) (b_tuple c) (by show some (Dt.lst _) = _; rw [List.map_map] <;> rfl)) ea_nil)) (.dat (.dat .nil)) (by simp)) rfl)) ?_
  have gf := fold_good g
  refine ss_cons (mu1 := [dRow ns r0]) (sd_set (d := dR (foldR r)) sc_law.nd 15 (ev_call (ok_folded c) (hr.mono (by decide)) (ea_cons (ev_val 2) ea_nil) (.dat .nil) ⟨r, rfl, g, rfl⟩)) ?_
  have hal : S_alike 3 [dR (foldR r), dR (foldR r)] [dRow ns r0] (.ret (.dat (.bl true)) [dRow ns r0]) := ⟨_, rfl, plain_R gf, rfl⟩
  refine ss_cons (mu1 := [dRow ns r0]) (sif0 (et_w (worF (et_not (k := true) (et_val (ev_call (rs := [.dat (dR (foldR r)), .dat (dR (foldR r))]) (ok_law_alike c 3) (hr.mono (by decide)) (ea_cons (ev_val 15) (ea_cons (ev_val 14) ea_nil)) (.dat (.dat .nil)) hal))) (ew_or1 (et_ne hr.units (ev_call (ok_folded c) (hr.mono (by decide)) (ea_cons (ev_val 15) ea_nil) (.dat .nil) ⟨foldR r, rfl, gf, rfl⟩) (ev_val 15) (k := true) ?same (dep_R _) (dep_R _)))))) ?_
  case same =>
    rw [fold_fold g]
    exact eqv_R _
  refine ss_cons (G1 := [.val (.scr ns), .val (.ptr 0), .val (dR r), .val (.lst ((Sx r).map .int)), .val (.lst ((leftL r 40).map tP)), .val (dicK (ids (imL r (hS r)))), .no, .no, .no, .val (.lst ((lotsS r).map .int)), .val (.lst ((foldN r).map dInts)), .no, .no, .no, .val (dR (foldR r)), .val (dR (foldR r)), .val (dGap (gapS ns r0).1), .val (dR (reelS ns (gapS ns r0).2 4 2).1), .no, .no]) (mu1 := [dRow ns (reelS ns (gapS ns r0).2 4 2).2]) (sd_par rfl sc_law.nd 16 17 (ev_call (ok_law_gap c) (hr.mono (by decide)) (ea_cons (ev_val 1) ea_nil) (.dat .nil) ⟨ns, r0, rfl, rfl, i1, rfl⟩)
    (ev_call (ok_law_reel c) (hr.mono (by decide)) (ea_cons (ev_val 1) (ea_cons ev_int (ea_cons ev_int ea_nil))) (.dat (.dat (.dat .nil))) ⟨ns, (gapS ns r0).2, 4, 2, rfl, rfl, i2, by decide, by decide, by decide, by decide, rfl⟩) (.dat (.dat .nil))) ?_
  generalize (reelS ns (gapS ns r0).2 4 2).2 = r1 at i3 ⊢
  generalize (reelS ns (gapS ns r0).2 4 2).1 = other at g2 ⊢
  generalize (gapS ns r0).1 = gap at gg ⊢
  have gf2 := fold_good g2
  have hmu : npL [dRow ns r1].length [dRow ns r1] = true := rfl
  refine ss_cons (mu1 := [dRow ns r1]) (sif0 (et_w (worF ((et_isnB (x := (partP false r (foldR r) gap).isNone) (y := true) (ev_call (ok_are_same c) (hr.mono (by decide)) (ea_cons (ev_val 2) (ea_cons (ev_val 15) (ea_cons (ev_val 16) ea_nil))) (.dat (.dat (.dat .nil))) ⟨r, foldR r, gap, rfl, g, gf, gg, rfl⟩) ev_bl))
    (ew_or1 (et_ne hr.units (d1 := .bl (outG r other gap).isSome) (d2 := .bl (outG (foldR r) (foldR other) gap).isSome) (ev_call (ok_comes_out c) (hr.mono (by decide)) (ea_cons (ev_val 2) (ea_cons (ev_val 17) (ea_cons (ev_val 16) ea_nil))) (.dat (.dat (.dat .nil))) ⟨r, other, gap, rfl, g, g2, gg, hmu, rfl⟩)
      (ev_call (ok_comes_out c) (hr.mono (by decide)) (ea_cons (ev_val 15) (ea_cons (ev_call (ok_folded c) (hr.mono (by decide)) (ea_cons (ev_val 17) ea_nil) (.dat .nil) ⟨other, rfl, g2, rfl⟩) (ea_cons (ev_val 16) ea_nil))) (.dat (.dat (.dat .nil))) ⟨foldR r, foldR other, gap, rfl, gf, gf2, gg, hmu, rfl⟩) (eqv_bb _ _) rfl rfl)) ?is)) ?out) ?_
  case is => rw [part_fold g gap] <;> rfl
  case out => rw [out_fold g g2, decide_eq_true rfl] <;> rfl
  have t4 := tk_rg (ns := ns) (r := r1) (m := 4) (by decide)
  have i4 : 0 ≤ (tk ns r1 4).2.i := tk_i i3
  have eF : filmD ns r1 = runG (pic1 ns 3) (upToN (lenF ns r1)) (tk ns r1 4).2 := rfl
  have eL : (1 + (tk ns r1 4).1).toNat = lenF ns r1 := rfl
  refine ss_cons (G1 := [.val (.scr ns), .val (.ptr 0), .val (dR r), .val (.lst ((Sx r).map .int)), .val (.lst ((leftL r 40).map tP)), .val (dicK (ids (imL r (hS r)))), .no, .no, .no, .val (.lst ((lotsS r).map .int)), .val (.lst ((foldN r).map dInts)), .no, .no, .no, .val (dR (foldR r)), .val (dR (foldR r)), .val (dGap gap), .val (dR other), .val (dInts (filmD ns r1).1), .no]) (mu1 := [dRow ns (filmD ns r1).2]) ?film ?_
  case film =>
    rw [eF]
    refine sd_set sc_law.nd 18 (ev_totup (ev_comp (own := [("_law_frame", 19)]) rfl sc_law.nd (ei_as (ei_range1 (n := 1 + (tk ns r1 4).1) (ev_add ev_int (ev_call (ok_taken c) (hr.mono (by decide)) (ea_cons (ev_val 1) (ea_cons ev_int ea_nil)) (.dat (.dat .nil)) ⟨ns, r1, 4, rfl, rfl, i3, by decide, by decide, rfl⟩)) (b_range c) (by omega) (by omega)) (by rw [eL, rngD_upTo])) (blkOk_by (by kernel_rfl)) (noown rfl)
      (comp_runG .int .int (fun r : Row => [dRow ns r]) (pic1 ns 3) (fun r : Row => 0 ≤ r.i) (fun a b hb => ⟨tk_i hb, _, _, fun s H C cl fp => eg_name sc_law.nd 19, by decide, rfl, fun s H C cl fp => ev_call (ok_taken c) (hr.mono (by decide)) (ea_cons (ev_val 1) (ea_cons ev_int ea_nil)) (.dat (.dat .nil)) ⟨ns, b, 3, rfl, rfl, hb, by decide, by decide, rfl⟩⟩) _ _ i4) ?fl) (b_tuple c))
    rw [List.length_map, runG_len, upTo_len, ← eL]
    omega
  refine ss_one (sd_ret (asB (ev_eq hr.units (d1 := .bl (lcan gap (filmD ns r1).1 r)) (d2 := .bl (lcan gap (filmD ns r1).1 (foldR r))) (ev_call (ok_law_can c) (hr.mono (by decide)) (ea_cons (ev_val 2) (ea_cons (ev_val 16) (ea_cons (ev_val 18) ea_nil))) (.dat (.dat (.dat .nil))) ⟨r, gap, (filmD ns r1).1, rfl, g, gg, rfl⟩)
    (ev_call (ok_law_can c) (hr.mono (by decide)) (ea_cons (ev_val 15) (ea_cons (ev_val 16) (ea_cons (ev_val 18) ea_nil))) (.dat (.dat (.dat .nil))) ⟨foldR r, gap, (filmD ns r1).1, rfl, gf, gg, rfl⟩) (eqv_bb _ _) rfl rfl) ?can))
  case can => rw [lcan_eq g.n gg, lcan_eq gf.n gg, can_fold g gap, decide_eq_true rfl]
end
end K63

set_option Elab.async false
set_option linter.all false
set_option maxRecDepth 100000
set_option maxHeartbeats 0
namespace K63
open PySem PySem.Spec PyProof.Rows L2 Dl
abbrev R : PySem.W.OpenRow := PySem.W.OpenLaw.row PySem.Challenge.rw_dropframes_k63_whole_foldings
abbrev hk : PySem.W.Hook := He.hookX 4 fa fn [] tf (lamsB tf tl)
def ob (s : PySem.W.SharedT) : He.AlX := He.obsX 4 fa fn [] tf (lamsB tf tl) (HandSHeadRun.getT s)
theorem ob_eq (s : PySem.W.SharedT) : ob s = hk.obs s.abs := He.obsX_eq (HandSHeadRun.getT_eq s)
def loose1 : List Str := ["ReelError", "BadReel", "BadGap", "MOST_STATES", "MOST_PICTURE", "is_number", "are_nexts", "need_reel", "beyond", "come_to", "states_of", "MOST_GAP", "need_gap", "most_left", "from_start", "ahead", "may_be", "first_pairs", "next_pairs", "web_of", "ranks_of", "need_two", "comes_out", "moved", "pictures_behind", "first_parting", "parting_of", "are_same", "classes_of", "folded_of"]
def loose2 : List Str := ["folded", "_law_taken", "_law_pick", "_law_alike", "_law_reel", "_law_gap", "_law_beyond", "_law_within", "_law_may", "_law_see", "_law_stands", "_law_can", "_law_alike_pairs"]
abbrev loose : List Str := loose1 ++ loose2
theorem run (w : World) : HandSHeadRun.RunEq R (PySem.W.view R.prog [49]) hk ob 4000 loose w := by
  intro os
  kernel_rfl
end K63

set_option Elab.async false
set_option linter.all false
set_option maxRecDepth 100000
set_option maxHeartbeats 0
namespace K63
open PySem PySem.Spec PyProof.Rows L2 Dl
theorem law_at {w : World} {mg : Str → Option Value} {fa' : Addr} {h : Heap} {K : PySem.W.Frag} (KX : K.In h) (c : He.SaysX fa fn [] tf (lamsB tf tl) w h K) (G : h.Ns mainGlobals mg) (hmg : mg "law" = some (.ref fa')) :
    LamX.LawAtS PySem.Challenge.rw_dropframes_k63_whole_foldings w K (L2.CX (PySem.Challenge.rw_dropframes_k63_whole_foldings).prog w) 9 63 "_law_script" mg fa' h := by
  obtain ⟨fd, F⟩ := c.t.d.defs (d := dOf "law" s_law) (List.mem_of_getElem? (i := 37) rfl)
  have F : FunD K "law" "law" (defArgs s_law) (defBody s_law) (defScope s_law) [] [] (He.fAd K ("law", none)) fd := F
  have e := hmg.symm.trans (He.glo_ok KX G (c.t.d.facts (f := .glo "law") (List.mem_of_getElem? (i := 37) rfl)))
  cases e
  have b := FunD.bindsA (ps := ["_law_script"]) F fun _ _ _ _ _ _ us hl => match us, hl with | [_], _ => rfl
  refine ⟨fd, tf.map (He.cT K), spD K (tabsOf tf tl K) S_law, fun p hp => ?_, fun p hp => ?_, fun p hp => ?_, fun s v => b s [v] rfl, fun H a ns _ _ hT hS => ?_, fun base KB GB tb => ?_⟩
  · obtain ⟨q, hq, rfl⟩ := List.mem_map.mp hp
    exact c.empty q hq
  · obtain ⟨q, hq, rfl⟩ := List.mem_map.mp hp
    exact c.out q hq
  · obtain ⟨q, hq, rfl⟩ := List.mem_map.mp hp
    exact PySem.W.codeHd_of_K KX (c.hd q hq)
  · refine law_in (fun p hp => ?_) hS ⟨ns, rfl, rfl, rfl⟩
    obtain ⟨q, hq, rfl⟩ := List.mem_map.mp (show p ∈ tf.map (fun p => (He.cT K p).2) from hp)
    exact hT _ (List.mem_map.mpr ⟨q, hq, rfl⟩)
  · exact ok_law (SaysX_fc KB GB c fun q hq => have t := tb _ (List.mem_map.mpr ⟨q, hq, rfl⟩); ⟨t.code, t.bm, t.gP⟩) F
end K63
open PySem PySem.W PySem.Calls PyProof.Rows
theorem PySem.Challenge.cw_dropframes_k63_whole_foldings_holds : PySem.Challenge.rw_dropframes_k63_whole_foldings.Holds := by
  w_on; o_law
  refine HandSHeadRun.head_any (r := OpenLaw.row PySem.Challenge.rw_dropframes_k63_whole_foldings) (q := view (OpenLaw.row PySem.Challenge.rw_dropframes_k63_whole_foldings).prog [49]) (H := K63.hk) (ob := K63.ob) (M := 4000) (loose := K63.loose) (d := HandSHeadRun.topDef (OpenLaw.row PySem.Challenge.rw_dropframes_k63_whole_foldings).prog 49) (kwd := []) K63.ob_eq
    (by kernel_rfl) (fun s => by kernel_rfl) K63.run (by kernel_rfl) (by kernel_rfl) (by kernel_rfl) (by rfl) (by first | assumption | decide +kernel) (by decide +kernel) ⟨rfl, rfl, rfl, rfl, rfl, by decide +kernel⟩ ?hw ?hc
  case hw => w_witness2
  case hc =>
    refine LamX.walk_ofTsE (l := PySem.Challenge.rw_dropframes_k63_whole_foldings) (n := 63) (k := 9) (x := "_law_script") (CX := fun w => L2.CX (PySem.Challenge.rw_dropframes_k63_whole_foldings).prog w) rfl (by decide) (by kernel_rfl) ⟨rfl, by decide, by decide⟩ ?F (fun w H s e s' ⟨_, _, _, _, _, _, _, _, _, _, _, _, z⟩ => z)
    case F =>
      intro w mg fa h Y G hmg0
      obtain ⟨K, KX, c⟩ := Y
      have hmg : mg ("law" : PySem.Str) = some (.ref fa) := by
        have e : (HandSHeadRun.topDef (OpenLaw.row PySem.Challenge.rw_dropframes_k63_whole_foldings).prog 49).name = ("law" : PySem.Str) := by kernel_rfl
        rw [← e]
        exact hmg0
      exact ⟨K, KX, K63.law_at KX c G hmg⟩
