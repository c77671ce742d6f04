import PyProof.Rows.All
import Wide.All
import OpenK.AllK
import Wide.FinOn
import HandS.ForMost
import HandS.IsInst
import HandS.Deep
import HandS.Zip
import HandS.Walk
import HandS.TupMul
import HandS.TupAny
import HandS.Style
import HandS.Strs
import HandS.Defaults
import KE.KDictKeyed
import KE.GoesEnum
import PySem.Challenge.RW_patchlots_k78_whole_searches
import HandS.HeadHook2
import KE.KStateDown
import HandS.Head0
import HandS.Head1
import HandS.Head2
import HandS.HeadEnd
import HandS.MakeKw
set_option Elab.async false
set_option linter.all false
set_option maxRecDepth 100000
set_option maxHeartbeats 4000000
namespace My
open PySem PySem.Spec PyProof.Rows L2

abbrev NK := List Int × Int
abbrev NE := NK × Addr × Bool
def nkey (k : NK) : NestedKey := .tup [.tup (k.1.map NestedKey.num), .num k.2]
theorem nums_inj : ∀ {a b : List Int}, a.map NestedKey.num = b.map NestedKey.num → a = b
  | [], [], _ => rfl
  | [], _ :: _, h => by cases h
  | _ :: _, [], h => by cases h
  | x :: a, y :: b, h => by
    rw [List.map_cons, List.map_cons] at h
    injection h with h1 h2
    injection h1 with h1
    rw [h1, nums_inj h2]
theorem nkey_inj {a b : NK} (h : nkey a = nkey b) : a = b := by
  unfold nkey at h
  injection h with h
  injection h with h1 h2
  injection h1 with h1
  injection h2 with h2 _
  injection h2 with h2
  exact Prod.ext (nums_inj h1) h2
def rawE (x : NE) : NestedKey × Addr × Value := (nkey x.1, x.2.1, Value.bool x.2.2)
def valN (xs : List NE) (k : NK) : Option Bool := (xs.find? fun x => decide (x.1 = k)).map fun x => x.2.2
def setN (k : NK) (v : Bool) (x : NE) : NE := if x.1 = k then (x.1, x.2.1, v) else x
def putN (xs : List NE) (k : NK) (a : Addr) (v : Bool) : List NE := if (valN xs k).isSome then xs.map (setN k v) else xs ++ [(k, a, v)]

theorem atKey_raw (k : NK) : ∀ xs : List NE, atKey (xs.map rawE) (nkey k) = (xs.find? fun x => decide (x.1 = k)).map fun x => (x.2.1, Value.bool x.2.2)
  | [] => rfl
  | x :: r => by
    have ih := atKey_raw k r
    unfold atKey at ih ⊢
    rw [List.map_cons, List.find?_cons, List.find?_cons]
    by_cases e : x.1 = k
    · have e1 : decide ((rawE x).1 = nkey k) = true := decide_eq_true (by show nkey x.1 = nkey k; rw [e])
      rw [e1, decide_eq_true e]; rfl
    · have e1 : decide ((rawE x).1 = nkey k) = false := decide_eq_false fun q => e (nkey_inj q)
      rw [e1, decide_eq_false e]
      exact ih
theorem atKey_some {xs : List NE} {k : NK} {v : Bool} (h : valN xs k = some v) : ∃ a, atKey (xs.map rawE) (nkey k) = some (a, Value.bool v) := by
  rw [atKey_raw]
  unfold valN at h
  cases e : xs.find? fun x => decide (x.1 = k) with
  | none => rw [e] at h; cases h
  | some x =>
    rw [e] at h
    have h' : x.2.2 = v := Option.some.inj h
    exact ⟨x.2.1, by rw [← h']; rfl⟩
theorem atKey_isSome (xs : List NE) (k : NK) : (atKey (xs.map rawE) (nkey k)).isSome = (valN xs k).isSome := by
  rw [atKey_raw]
  unfold valN
  cases xs.find? fun x => decide (x.1 = k) <;> rfl
theorem storedH_raw (xs : List NE) (k : NK) (a : Addr) (v : Bool) : storedH (xs.map rawE) (nkey k) a (Value.bool v) = (putN xs k a v).map rawE := by
  unfold storedH putN
  rw [atKey_isSome]
  split
  · rw [List.map_map, List.map_map]
    refine List.map_congr_left fun x _ => ?_
    show putAt (nkey k) (Value.bool v) (rawE x) = rawE (setN k v x)
    unfold putAt setN
    by_cases e : x.1 = k
    · rw [if_pos (show (rawE x).1 = nkey k by show nkey x.1 = nkey k; rw [e]), if_pos e]; rfl
    · rw [if_neg (show ¬ (rawE x).1 = nkey k from fun q => e (nkey_inj q)), if_neg e]
  · rw [List.map_append]; rfl
theorem valN_cons (x : NE) (r : List NE) (k : NK) : valN (x :: r) k = if x.1 = k then some x.2.2 else valN r k := by
  unfold valN
  rw [List.find?_cons]
  by_cases e : x.1 = k
  · rw [decide_eq_true e, if_pos e]; rfl
  · rw [decide_eq_false e, if_neg e]
theorem valN_mem {xs : List NE} {k : NK} {v : Bool} (h : valN xs k = some v) : ∃ a, (k, a, v) ∈ xs := by
  induction xs with
  | nil => cases h
  | cons x r ih =>
    rw [valN_cons] at h
    by_cases e : x.1 = k
    · rw [if_pos e] at h
      have h' : x.2.2 = v := Option.some.inj h
      refine ⟨x.2.1, ?_⟩
      rw [← e, ← h']
      exact List.mem_cons_self
    · rw [if_neg e] at h
      obtain ⟨a, q⟩ := ih h
      exact ⟨a, List.mem_cons_of_mem _ q⟩
theorem valN_none {xs : List NE} {k : NK} (h : valN xs k = none) : k ∉ xs.map (·.1) := by
  induction xs with
  | nil => simp
  | cons x r ih =>
    rw [valN_cons] at h
    by_cases e : x.1 = k
    · rw [if_pos e] at h; cases h
    · rw [if_neg e] at h
      rw [List.map_cons, List.mem_cons]
      rintro (q | q)
      · exact e q.symm
      · exact ih h q
theorem valN_map (k k' : NK) (v : Bool) : ∀ xs : List NE, valN (xs.map (setN k v)) k' = if k' = k then (valN xs k').map fun _ => v else valN xs k'
  | [] => by by_cases e : k' = k <;> simp [e, valN]
  | x :: r => by
    have ih := valN_map k k' v r
    rw [List.map_cons, valN_cons, valN_cons]
    unfold setN
    by_cases e : x.1 = k
    · rw [if_pos e]
      by_cases q : x.1 = k'
      · have q2 : k' = k := by rw [← q, e]
        rw [if_pos q, if_pos q2, if_pos q]; rfl
      · rw [if_neg q, if_neg q]; exact ih
    · rw [if_neg e]
      by_cases q : x.1 = k'
      · have q2 : ¬ k' = k := by rw [← q]; exact e
        rw [if_pos q, if_neg q2, if_pos q]
      · rw [if_neg q, if_neg q]; exact ih
theorem valN_app (k k' : NK) (a : Addr) (v : Bool) : ∀ xs : List NE, valN (xs ++ [(k, a, v)]) k' = match valN xs k' with | some b => some b | none => if k' = k then some v else none
  | [] => by
    rw [List.nil_append, valN_cons]
    by_cases e : k' = k
    · rw [if_pos (show (k, a, v).1 = k' from e.symm), if_pos e]; rfl
    · rw [if_neg (show ¬ (k, a, v).1 = k' from fun q => e q.symm), if_neg e]; rfl
  | x :: r => by
    have ih := valN_app k k' a v r
    rw [List.cons_append, valN_cons, valN_cons]
    by_cases q : x.1 = k'
    · rw [if_pos q, if_pos q]
    · rw [if_neg q, if_neg q]; exact ih
theorem valN_put (xs : List NE) (k k' : NK) (a : Addr) (v : Bool) : valN (putN xs k a v) k' = if k' = k then some v else valN xs k' := by
  unfold putN
  cases h : valN xs k with
  | some b =>
    rw [if_pos (show (some b : Option Bool).isSome = true from rfl), valN_map]
    by_cases e : k' = k
    · rw [if_pos e, if_pos e, e, h]; rfl
    · rw [if_neg e, if_neg e]
  | none =>
    rw [if_neg (show ¬ (none : Option Bool).isSome = true from Bool.false_ne_true), valN_app]
    by_cases e : k' = k
    · rw [if_pos e, if_pos e, e, h]
    · rw [if_neg e, if_neg e]
      cases valN xs k' <;> rfl
theorem mem_putN {xs : List NE} {k : NK} {a : Addr} {v : Bool} {y : NE} (h : y ∈ putN xs k a v) : (y.1 = k ∧ y.2.2 = v ∧ (y.2.1 = a ∨ ∃ z ∈ xs, z.1 = k ∧ z.2.1 = y.2.1)) ∨ (y.1 ≠ k ∧ y ∈ xs) := by
  unfold putN at h
  split at h
  · obtain ⟨z, hz, e⟩ := List.mem_map.mp h
    unfold setN at e
    by_cases q : z.1 = k
    · rw [if_pos q] at e
      left
      rw [← e]
      exact ⟨q, rfl, .inr ⟨z, hz, q, rfl⟩⟩
    · rw [if_neg q] at e
      right
      rw [← e]
      exact ⟨q, hz⟩
  · rename_i hn
    rcases List.mem_append.mp h with h | h
    · by_cases q : y.1 = k
      · exfalso
        have : valN xs k = none := by
          cases e : valN xs k with
          | none => rfl
          | some b => rw [e] at hn; exact absurd rfl hn
        exact valN_none this (List.mem_map.mpr ⟨y, h, q⟩)
      · exact .inr ⟨q, h⟩
    · have e : y = (k, a, v) := List.mem_singleton.mp h
      left
      rw [e]
      exact ⟨rfl, rfl, .inl rfl⟩
theorem keys_putN {xs : List NE} {k : NK} {a : Addr} {v : Bool} (h : (xs.map (·.1)).Nodup) : ((putN xs k a v).map (·.1)).Nodup := by
  unfold putN
  cases e : valN xs k with
  | some b =>
    rw [if_pos (show (some b : Option Bool).isSome = true from rfl), List.map_map]
    have : xs.map ((fun x : NE => x.1) ∘ setN k v) = xs.map (·.1) := List.map_congr_left fun x _ => by
      show (setN k v x).1 = x.1
      unfold setN
      split <;> rfl
    rw [this]
    exact h
  | none =>
    rw [if_neg (show ¬ (none : Option Bool).isSome = true from Bool.false_ne_true), List.map_append]
    exact nd_snoc h (valN_none e)
theorem len_putN (xs : List NE) (k : NK) (a : Addr) (v : Bool) : (putN xs k a v).length ≤ xs.length + 1 := by
  unfold putN
  split
  · rw [List.length_map]; omega
  · rw [List.length_append]; simp

def NObj (P : Program) (w : World) (d : Addr) (xs : List NE) : HO := .ext fun h => ∃ o es ep, h.get? d = some o ∧ o.ExactDict ∧ o.data = .dict es ep ∧ es.toList = (xs.map rawE).map (entryOfKey (nestedKind P w))
def KeyAt (H : Hp) (q : Addr) (k : NK) : Prop := ∃ p, H q = some (.tup [.ref p, .int k.2]) ∧ H p = some (.tup (k.1.map V.int))
structure DN (P : Program) (w : World) (H : Hp) (d : Addr) (xs : List NE) : Prop where
  ob : H d = some (NObj P w d xs)
  ks : ∀ x ∈ xs, KeyAt H x.2.1 x.1
  nd : (xs.map (·.1)).Nodup
  sm : (d == sysModules) = false
section
variable {P : Program} {w : World} {H H' : Hp} {d q : Addr} {k : NK} {xs : List NE}
theorem KeyAt.up {o : HO} {b : Addr} (h : KeyAt H q k) (hb : ∀ ys, H b ≠ some (.tup ys)) : KeyAt (upd H b o) q k := by
  obtain ⟨p, h1, h2⟩ := h
  have n1 : q ≠ b := fun e => hb _ (e ▸ h1)
  have n2 : p ≠ b := fun e => hb _ (e ▸ h2)
  exact ⟨p, by rw [upd_ne n1]; exact h1, by rw [upd_ne n2]; exact h2⟩
theorem KeyAt.keep (h : KeyAt H q k) (kp : ∀ b ys, H b = some (.tup ys) → H' b = some (.tup ys)) : KeyAt H' q k := by
  obtain ⟨p, h1, h2⟩ := h
  exact ⟨p, kp _ _ h1, kp _ _ h2⟩
theorem DN.keep (h : DN P w H d xs) (kd : H' d = H d) (kp : ∀ b ys, H b = some (.tup ys) → H' b = some (.tup ys)) : DN P w H' d xs :=
  ⟨kd.trans h.ob, fun x hx => (h.ks x hx).keep kp, h.nd, h.sm⟩
theorem DN.put {v : Bool} (h : DN P w H d xs) (hk : KeyAt H q k) : DN P w (upd H d (NObj P w d (putN xs k q v))) d (putN xs k q v) := by
  have hb : ∀ ys, H d ≠ some (.tup ys) := fun ys e => by rw [h.ob] at e; cases e
  refine ⟨upd_same, fun y hy => ?_, keys_putN h.nd, h.sm⟩
  rcases mem_putN hy with ⟨e1, e2, e3⟩ | ⟨e1, e2⟩
  · rcases e3 with e3 | ⟨z, hz, ez, ea⟩
    · rw [e1, e3]; exact hk.up hb
    · rw [e1, ← ea, ← ez]; exact (h.ks z hz).up hb
  · exact (h.ks y e2).up hb
end
theorem nums_all {h : Heap} : ∀ {ns : List Int} {us : List Value}, Vals (ns.map V.int) us → NestedAll h (ns.map NestedKey.num) us
  | [], _, .nil => .nil
  | n :: ns, _, .cons r t => by
    obtain ⟨k, rfl⟩ := r
    exact .cons (.int n k) (nums_all t)
theorem depthAll_nums : ∀ ns : List Int, NestedKey.depthAll (ns.map NestedKey.num) ≤ 1
  | [] => by simp [NestedKey.depthAll]
  | n :: ns => by
    have ih := depthAll_nums ns
    rw [List.map_cons]
    simp only [NestedKey.depthAll, NestedKey.depth]
    omega
section
variable {X : Cx} {pins : List (Addr × Obj)} {σ : L2.St} {H : Hp} {s : Shared} {d q : Addr} {k : NK} {xs : List NE}
theorem key_is (I : Inv X pins σ H s) (h : KeyAt H q k) : (nestedKind X.prog X.w).is s.heap (nkey k) q := by
  obtain ⟨p, h1, h2⟩ := h
  obtain ⟨_, its, r, o, g1, g2, n, g3⟩ := (show ObjOk X.prog X.w H s.heap q (.tup [.ref p, .int k.2]) from I.hok q _ h1)
  obtain ⟨_, its2, r2, o2, f1, f2, n2, f3⟩ := (show ObjOk X.prog X.w H s.heap p (.tup (k.1.map V.int)) from I.hok p _ h2)
  obtain ⟨u1, u2, rfl, e1, t, rfl⟩ := vals2 r
  obtain rfl : u1 = Value.ref p := e1
  refine ⟨.tup g1 g2 g3 (.cons (.tup f1 f2 f3 (nums_all r2)) (.cons (.int _ _) .nil)), ?_⟩
  have hd := depthAll_nums k.1
  show (nkey k).depth ≤ 8
  unfold nkey
  simp only [NestedKey.depth, NestedKey.depthAll]
  omega
theorem dn_H (I : Inv X pins σ H s) (h : DN X.prog X.w H d xs) : s.heap.DictOfH (nestedKind X.prog X.w) d (xs.map rawE) := by
  obtain ⟨o, es, ep, h1, h2, h3, h4⟩ := (show ObjOk X.prog X.w H s.heap d (NObj X.prog X.w d xs) from I.hok d _ h.ob).1
  refine ⟨o, es, ep, h1, h2, h3, h4, fun y hy => ?_, ?_⟩
  · obtain ⟨x, hx, rfl⟩ := List.mem_map.mp hy
    exact key_is I (h.ks x hx)
  · rw [List.map_map]
    have e : xs.map ((fun y : NestedKey × Addr × Value => y.1) ∘ rawE) = (xs.map (·.1)).map nkey := by rw [List.map_map]; rfl
    rw [e]
    exact List.Pairwise.map _ (fun a b hab e => hab (nkey_inj e)) h.nd
theorem nobj_ok {P : Program} {w : World} {h : Heap} {G : Hp} (e : h.DictOfH (nestedKind P w) d (xs.map rawE)) : ObjOk P w G h d (NObj P w d xs) := by
  obtain ⟨o, es, ep, h1, h2, h3, h4, _⟩ := e
  refine ⟨⟨o, es, ep, h1, h2, h3, h4⟩, ⟨o, h1⟩, fun a b x kp => ?_⟩
  obtain ⟨o', es', ep', g1, g2⟩ := x
  exact ⟨o', es', ep', kp _ g1, g2⟩

def rNotInN (P : Program) (w : World) : R2 := fun x y H Q => ∃ q d k xs, x = .ref q ∧ y = .ref d ∧ KeyAt H q k ∧ DN P w H d xs ∧ Q (.bl (!(valN xs k).isSome)) H
theorem op_notInN (hu : X.A.units + 64 < cLine) : OpR X (compareOp .NotIn) (rNotInN X.prog X.w) := by
  intro pins s σ H x y v u Q I rx ry h
  obtain ⟨q, d, k, xs, rfl, rfl, hk, hd, hq⟩ := h
  cases rx
  cases ry
  show wpAny _ _ (do let c ← contains (Value.ref d) (Value.ref q); pure (Value.bool (!c))) _ _ s
  refine wpAny_bind (wpAny_contains_heap (knd := nestedKind X.prog X.w) (by show X.A.units + 1 + 8 < cLine; omega) (key_is I hk) hd.sm (dn_H I hd) (wpAny_pure ?_))
  rw [atKey_isSome]
  exact ⟨.bl (!(valN xs k).isSome), H, I.tok _, rfl, hq⟩
def tGetN (P : Program) (w : World) (ta tb : TE) : TE := tOp (fun x y H Q => ∃ d q k xs b, x = .ref d ∧ y = .ref q ∧ KeyAt H q k ∧ DN P w H d xs ∧ valN xs k = some b ∧ Q (.bl b) H) ta tb
theorem pe_getN {a b : Expr} {ta tb : TE} {pos : Pos} (hu : X.A.units + 64 < cLine) (ha : PE X a ta) (hb : PE X b tb) (hs : PlainIx b) : PE X (.Subscript a b pos) (tGetN X.prog X.w ta tb) := by
  refine ⟨fun pins s σ H Q I h => ?_⟩
  refine Subscript_ (binT ha hb I h fun v u s2 x y H2 I2 rx ry hh => ?_)
  obtain ⟨d, q, k, xs, bo, rfl, rfl, hk, hd, hv, hq⟩ := hh
  cases rx
  cases ry
  obtain ⟨ad, ea⟩ := atKey_some hv
  have hm := dn_H I2 hd
  refine tail_any hm.typeIs PySem.F.slot_dict_getitem.lookup (wpAny_getItem_heap (knd := nestedKind X.prog X.w) (by show X.A.units + 1 + 8 < cLine; omega) (key_is I2 hk) hm ea ?_) (hs _ _)
  exact ⟨.bl bo, H2, I2.tok _, rfl, hq⟩
def rSetN (P : Program) (w : World) : V → V → V → Hp → (Hp → Prop) → Prop := fun o i v H Q => ∃ d q k xs b, o = .ref d ∧ i = .ref q ∧ v = .bl b ∧ KeyAt H q k ∧ DN P w H d xs ∧ xs.length ≤ 1000000 ∧ Q (upd H d (NObj P w d (putN xs k q b)))
theorem set_N (hu : X.A.units + 64 < cLine) : PSet X (rSetN X.prog X.w) := by
  intro pins s σ H o i v ov iv u Q I ro ri rv h
  obtain ⟨d, q, k, xs, b, rfl, rfl, rfl, hk, hd, hl, hq⟩ := h
  cases ro
  cases ri
  cases rv
  have hz : sizeLine = 16777216 := sizeLine_eq
  refine wpAny_setItem_heap (knd := nestedKind X.prog X.w) (by show X.A.units + 1 + 8 < cLine; omega) (key_is I hk) (dn_H I hd) (hsz := by rw [List.length_map]; omega) fun h' hm' sb => ?_
  rw [storedH_raw] at hm'
  obtain ⟨o', _, _, ho', _⟩ := id hm'
  exact ⟨_, I.write (x := d) (e := d) (by rw [hd.ob]; exact True.intro) (.inl rfl) (fun c ob hc e => (sb.2 c hc).trans e) ⟨o', ho'⟩ (nobj_ok hm'), hq⟩
def tNewN (P : Program) (w : World) : TE := fun _ H Q => ∀ d, H d = none → (d == sysModules) = false → Q (.ref d) (upd H d (NObj P w d []))
theorem pe_newN {pos : Pos} : PE X (.Dict [] [] pos) (tNewN X.prog X.w) := by
  refine ⟨fun pins s σ H Q I h => wpAny_Dict_empty ?_⟩
  have hn := h s.heap.objs.size (I.hok.fresh (Nat.le_refl _)) (beq_eq_false_iff_ne.mpr (Ne.symm (Nat.ne_of_lt I.big)))
  exact ⟨.ref s.heap.objs.size, _, I.laid (a := s.heap.objs.size) (t' := s.toks) (fun _ _ e => Heap.get?_push_of_some _ e) (Nat.le_refl _) (nobj_ok (xs := []) (Heap.DictOfH.new s.heap)), rfl, hn⟩
end
theorem DN.new {P : Program} {w : World} {H : Hp} {d : Addr} (sm : (d == sysModules) = false) : DN P w (upd H d (NObj P w d [])) d [] := ⟨upd_same, (fun _ h => nomatch h), List.nodup_nil, sm⟩
end My

set_option Elab.async false
set_option linter.all false
set_option maxRecDepth 100000
set_option maxHeartbeats 4000000
namespace My
open PySem PySem.Spec PyProof.Rows L2

def SqB (K : PySem.W.Frag) (H : Hp) : Bool → Addr → List V → Prop
  | true, a, xs => SqL K H a xs
  | false, a, xs => SqT K H a xs
def ItB (h : Heap) : Bool → Addr → Addr → Nat → Prop
  | true, it, a, i => h.IsListIter it a i
  | false, it, a, i => h.IsTupleIter it a i
def AtB (h : Heap) : Bool → Addr → Array Value → Prop
  | true, a, its => h.IsList a its
  | false, a, its => h.IsTuple a its
def itOb : Bool → Addr → Obj
  | true, a => { cls := .type "list_iterator", data := .fields #[.ref a, .int 0 0] }
  | false, a => { cls := .type "tuple_iterator", data := .fields #[.ref a, .int 0 0] }
theorem AtB.lt {h : Heap} {b : Bool} {a : Addr} {its : Array Value} (x : AtB h b a its) : a < h.objs.size := by
  cases b with
  | true => obtain ⟨_, e, _⟩ := (show h.IsList a its from x); exact Heap.lt_size e
  | false => obtain ⟨_, e, _⟩ := (show h.IsTuple a its from x); exact Heap.lt_size e
theorem begB (b : Bool) (a : Addr) (its : Array Value) : Begins (.ref a) (itOb b a) fun h => AtB h b a its := by
  cases b with
  | true => exact begins_list a its
  | false => exact begins_tuple a its
theorem drawB {prog : Program} {w : World} {A : Around} (hh : A.handled = none) (b : Bool) (it a : Addr) (hne : a ≠ it) (its : Array Value) :
    Draws prog w A it [it, a] its.size (fun i v => its[i]? = some v) (fun i h => ItB h b it a i ∧ AtB h b a its) := by
  cases b with
  | true => exact Draws.list hh it a hne its
  | false => exact Draws.tuple hh it a hne its
theorem ItB.keep {h h' : Heap} {b : Bool} {it a : Addr} {i : Nat} (x : ItB h b it a i) (k : ∀ o, h.get? it = some o → h'.get? it = some o) : ItB h' b it a i := by
  cases b with
  | true => obtain ⟨o, e, r⟩ := (show h.IsListIter it a i from x); exact ⟨o, k o e, r⟩
  | false => obtain ⟨o, e, r⟩ := (show h.IsTupleIter it a i from x); exact ⟨o, k o e, r⟩
theorem ItB.ob {h : Heap} {b : Bool} {it a : Addr} {i : Nat} (x : ItB h b it a i) : ∃ o, h.get? it = some o ∧ ∀ v, o.data ≠ .cell v := by
  cases b with
  | true => obtain ⟨o, e, _, d⟩ := (show h.IsListIter it a i from x); exact ⟨o, e, fun v q => by rw [d] at q; cases q⟩
  | false => obtain ⟨o, e, _, d⟩ := (show h.IsTupleIter it a i from x); exact ⟨o, e, fun v q => by rw [d] at q; cases q⟩
theorem ItB.new {h : Heap} {b : Bool} {it a : Addr} (e : h.get? it = some (itOb b a)) : ItB h b it a 0 := by
  cases b with
  | true => exact ⟨_, e, rfl, rfl⟩
  | false => exact ⟨_, e, rfl, rfl⟩
section
variable {X : Cx} {pins : List (Addr × Obj)} {σ : L2.St} {H : Hp} {s : Shared} {a : Addr} {xs ys : List V} {b : Bool}
theorem sqb_get (I : Inv X pins σ H s) (h : SqB X.K H b a xs) : ∃ its : List Value, Vals xs its ∧ AtB s.heap b a its.toArray := by
  cases b with
  | true =>
    obtain ⟨its, r, p, _⟩ := I.list h
    exact ⟨its, r, p.isList⟩
  | false =>
    obtain ⟨its, r, p, _⟩ := I.tuple h
    exact ⟨its, r, p⟩
theorem sqb_inj (I : Inv X pins σ H s) (h : SqB X.K H b a xs) (h' : SqB X.K H b a ys) : xs = ys := by
  cases b with
  | true => exact I.list_inj h h'
  | false => exact I.tuple_inj h h'
end
theorem SqB.keep {K : PySem.W.Frag} {H H' : Hp} {b : Bool} {a : Addr} {xs : List V} (h : SqB K H b a xs) (k : ∀ o, H a = some o → H' a = some o) : SqB K H' b a xs := by
  cases b with
  | true =>
    rcases h with (h | ⟨o, h⟩) | h
    · exact .inl (.inl (k _ h))
    · exact .inl (.inr ⟨o, k _ h⟩)
    · exact .inr h
  | false =>
    rcases h with (h | ⟨o, h⟩) | h
    · exact .inl (.inl (k _ h))
    · exact .inl (.inr ⟨o, k _ h⟩)
    · exact .inr h

def ItzB (K : PySem.W.Frag) (p q : Bool) (a b : Addr) : It where
  go := fun i H => ∃ (xs ys : List V) (x y : V), SqB K H p a xs ∧ SqB K H q b ys ∧ xs[i]? = some x ∧ ys[i]? = some y
  yld := fun i H v H' => ∃ T x y, v = .ref T ∧ H T = none ∧ H' = upd H T (.tup [x, y]) ∧ (∀ xs, SqB K H p a xs → xs[i]? = some x) ∧ ∀ ys, SqB K H q b ys → ys[i]? = some y
  stop := fun i H => ∃ xs ys : List V, SqB K H p a xs ∧ SqB K H q b ys ∧ i ≤ xs.length ∧ i ≤ ys.length ∧ (i = xs.length ∨ i = ys.length)
def ZTn (p q : Bool) (a b z TI TO i1 i2 : Addr) (i : Nat) (h : Heap) : Prop :=
  IsZip h z TI TO .none ∧ IsTupOf2 h TI (.ref i1) (.ref i2) ∧ (∃ x y, IsTupOf2 h TO x y) ∧ ItB h p i1 a i ∧ ItB h q i2 b i
theorem mem5 {c z TI TO i1 i2 : Addr} (h : c ∈ [z, TI, TO, i1, i2]) : c = z ∨ c = TI ∨ c = TO ∨ c = i1 ∨ c = i2 := by simpa using h
theorem turn_zipB {P : Program} {w : World} {K : PySem.W.Frag} {elts : List Expr} {kk : Nat} {tpos : Pos} {p q : Bool} {a b z TI TO i1 i2 : Addr} (S : ZipSep2 z TI TO i1 i2 [i1, a] [i2, b]) (na : a ≠ i1) (nb : b ≠ i2) :
    Turn P w K (.Tuple elts kk tpos) (ItzB K p q a b) [z, TI, TO, i1, i2] z (ZTn p q a b z TI TO i1 i2) where
  mem := List.mem_cons_self
  obj := fun i h st c hc => by
    obtain ⟨hz, hTI, ⟨x, y, hTO⟩, h1, h2⟩ := st
    rcases mem5 hc with e | e | e | e | e <;> rw [e]
    · exact ⟨_, hz, fun v q => nomatch q⟩
    · exact ⟨_, hTI, fun v q => nomatch q⟩
    · exact ⟨_, hTO, fun v q => nomatch q⟩
    · exact h1.ob
    · exact h2.ob
  keep := fun i h h' st k => by
    obtain ⟨hz, hTI, ⟨x, y, hTO⟩, h1, h2⟩ := st
    exact ⟨k z (by simp) _ hz, k TI (by simp) _ hTI, ⟨x, y, k TO (by simp) _ hTO⟩, h1.keep (k i1 (by simp)), h2.keep (k i2 (by simp))⟩
  item := by
    intro X hP hw hK hc i pins s σ H E I hf st hg
    subst hP hw hK
    obtain ⟨hz, hTI, ⟨x0, y0, hTO⟩, h1, h2⟩ := st
    obtain ⟨xs, ys, x, y, hqx, hqy, hx, hy⟩ := hg
    obtain ⟨its, rv, p1⟩ := sqb_get I hqx
    obtain ⟨its2, rv2, p2⟩ := sqb_get I hqy
    have l1 := rv.length
    have l2 := rv2.length
    have li1 : i < its.toArray.size := by
      have := (List.getElem?_eq_some_iff.mp hx).1
      rw [List.size_toArray]; omega
    have li2 : i < its2.toArray.size := by
      have := (List.getElem?_eq_some_iff.mp hy).1
      rw [List.size_toArray]; omega
    have hh : X.A.in1.handled = none := I.ok.hd hc
    have hzl : z < s.heap.objs.size := Heap.lt_size hz
    refine wpAny_pyNext_zipD2_item S (drawB hh p i1 a na its.toArray) (drawB hh q i2 b nb its2.toArray) hz hTI hTO ⟨h1, p1⟩ ⟨h2, p2⟩ li1 li2 fun x1 x2 h' tk e1 e2 hz' hTO' s1 s2 hT hsz hk => ?_
    refine ⟨_, rfl, wpAny_letOwnedTupleGo_zip (s := { s with heap := h', toks := tk }) hz' fun h'' hz'' sb => ?_⟩
    obtain ⟨u1, f1, r1⟩ := rv.get hx
    obtain ⟨u2, f2, r2⟩ := rv2.get hy
    have q1 : u1 = x1 := by
      have e1' : its[i]? = some x1 := by simpa using e1
      rw [f1] at e1'; exact Option.some.inj e1'
    have q2 : u2 = x2 := by
      have e2' : its2[i]? = some x2 := by simpa using e2
      rw [f2] at e2'; exact Option.some.inj e2'
    subst q1 q2
    have neN : ∀ c ∈ [z, TI, TO, i1, i2], c < s.heap.objs.size := fun c hc => by
      rcases mem5 hc with e | e | e | e | e <;> rw [e]
      · exact hzl
      · exact Heap.lt_size hTI
      · exact Heap.lt_size hTO
      · obtain ⟨_, e, _⟩ := h1.ob; exact Heap.lt_size e
      · obtain ⟨_, e, _⟩ := h2.ob; exact Heap.lt_size e
    have hT2 : h''.get? s.heap.objs.size = some { cls := .type "tuple", data := .seq #[u1, u2] } := (sb.2 _ (Nat.ne_of_gt hzl)).trans hT
    have new : ObjOk X.prog X.w (upd H s.heap.objs.size (.tup [x, y])) h'' s.heap.objs.size (.tup [x, y]) :=
      ⟨by show 2 ≤ sizeLine; decide, [u1, u2], .cons r1 (.cons r2 .nil), ⟨_, hT2, rfl, _, rfl⟩⟩
    have kk : ∀ c o, c ∉ [z, TI, TO, i1, i2] → s.heap.get? c = some o → h''.get? c = some o := fun c o hn e => by
      have nz : c ≠ z := fun e => hn (by rw [e]; simp)
      exact (sb.2 c nz).trans (hk c o nz (fun e => hn (by rw [e]; simp)) (fun e => hn (by rw [e]; simp)) (fun e => hn (by rw [e]; simp)) e)
    have I1 : Inv X pins σ (upd H s.heap.objs.size (.tup [x, y])) { s with heap := h'', toks := tk } := I.turnedNew (t' := tk) (ch := [z, TI, TO, i1, i2]) kk hf (Nat.le_refl _) new
    refine ⟨.ref s.heap.objs.size, _, I1, rfl, ⟨_, x, y, rfl, I.hok.fresh (Nat.le_refl _), rfl, fun l hl => by rw [sqb_inj I hl hqx]; exact hx, fun l hl => by rw [sqb_inj I hl hqy]; exact hy⟩, ⟨hz'', ?_, ⟨u1, u2, ?_⟩, ?_, ?_⟩, fun c hcm => ?_⟩
    · exact (sb.2 _ S.TIz).trans (hk _ _ S.TIz S.TITO S.TIi1 S.TIi2 hTI)
    · exact (sb.2 _ S.TOz).trans hTO'
    · exact s1.1.keep fun o e => (sb.2 _ (Ne.symm S.zi1)).trans e
    · exact s2.1.keep fun o e => (sb.2 _ (Ne.symm S.zi2)).trans e
    · rw [upd_ne (Nat.ne_of_lt (neN c hcm))]
      exact (hf c hcm).1
  done := by
    intro X hP hw hK hc i pins s σ H E I hf st hg
    subst hP hw hK
    obtain ⟨hz, hTI, ⟨x0, y0, hTO⟩, h1, h2⟩ := st
    obtain ⟨xs, ys, hqx, hqy, b1, b2, b3⟩ := hg
    obtain ⟨its, rv, p1⟩ := sqb_get I hqx
    obtain ⟨its2, rv2, p2⟩ := sqb_get I hqy
    have l1 := rv.length
    have l2 := rv2.length
    have hh : X.A.in1.handled = none := I.ok.hd hc
    have z1 : its.toArray.size = xs.length := by rw [List.size_toArray]; exact l1.symm
    have z2 : its2.toArray.size = ys.length := by rw [List.size_toArray]; exact l2.symm
    refine wpAny_pyNext_zipD2_end S (drawB hh p i1 a na its.toArray) (drawB hh q i2 b nb its2.toArray) hz hTI hTO ⟨h1, p1⟩ ⟨h2, p2⟩ (by omega) (by omega) (by omega) fun h' tk hk => ⟨rfl, ?_⟩
    exact I.turnedL (t' := tk) (ch := [z, TI, TO, i1, i2]) (fun c o hn e => hk c o (fun e => hn (by rw [e]; simp)) (fun e => hn (by rw [e]; simp)) (fun e => hn (by rw [e]; simp)) (fun e => hn (by rw [e]; simp)) e) hf
  self := fun A i s Q E st h => wpAny_pyIter_zip st.1 h

theorem walk_zipB {K : PySem.W.Frag} {p q : Bool} {a b : Addr} {xs ys : List V} (hl : xs.length = ys.length) : Walk (ItzB K p q a b) xs.length (fun H => SqB K H p a xs ∧ SqB K H q b ys) (YPair (fun i => xs[i]?) (fun i => ys[i]?)) := by
  refine ⟨fun i H hi h => ?_, fun H h => ⟨xs, ys, h.1, h.2, Nat.le_refl _, by omega, .inl rfl⟩, fun i H v H' hi h y => ?_⟩
  · have h2 : i < ys.length := by omega
    exact ⟨xs, ys, xs[i], ys[i], h.1, h.2, by simp [hi], by simp [h2]⟩
  · obtain ⟨T, x, z, e1, e2, e3, e4, e5⟩ := y
    exact ⟨T, x, z, e1, e2, e3, e4 xs h.1, e5 ys h.2⟩
def iZipB (K : PySem.W.Frag) (ta : TA) : TI := fun σ H R => ta σ H fun vs H1 => ∃ p q a b xs ys, vs = [.ref a, .ref b] ∧ SqB K H1 p a xs ∧ SqB K H1 q b ys ∧ R (ItzB K p q a b) H1
section
variable {X : Cx}
theorem two_refs {a b : Addr} {us : List Value} (r : Vals [V.ref a, V.ref b] us) : us = [Value.ref a, Value.ref b] := by
  obtain ⟨u, w, rfl, h1, h2⟩ := vals2 r
  cases h1
  cases h2
  rfl
theorem pi_zipB {e e2 : Expr} {ta : TA} {p pos tpos : Pos} {elts : List Expr} {kk : Nat} (hg : Gl X "zip") (hm : X.mg "zip" = none) (ha : PA X [e, e2] ta)
    (hs : starEach [e, e2] X.env = (false, eval e X.env) :: starEach [e2] X.env := by rfl) (hpl : (backTo pos (starEach [e2] X.env)).any (·.1) = false := by rfl) :
    PI X (.Tuple elts kk tpos) (.Call (.Name "zip" p) [e, e2] [] pos) (iZipB X.K ta) := by
  refine ⟨fun pins s σ H R I h => ?_⟩
  refine Call_ (ld_blt I hg hm PyProof.Rows.boot_zip (PyProof.Rows.callWith_type1 (thn (ha.run pos pins s σ H _ I h) fun us s1 ⟨vs, H1, I1, r1, q1⟩ => ?_) hs hpl))
  obtain ⟨p, q, a, b, xs, ys, rfl, hqx, hqy, q1⟩ := q1
  have e := two_refs r1
  subst e
  obtain ⟨its, rv, p1⟩ := sqb_get I1 hqx
  obtain ⟨its2, rv2, p2⟩ := sqb_get I1 hqy
  have la := p1.lt
  have lb := p2.lt
  refine zip_begins2 (begB p a its.toArray) (begB q b its2.toArray) p1 p2 fun h' hz hTI hTO e1 e2 hsz hk => wpAny_pyIter_zip hz ?_
  have I2 : Inv X pins σ H1 { s1 with heap := h' } := I1.kept (t' := s1.toks) hk
  have sep : ZipSep2 (s1.heap.objs.size + 4) (s1.heap.objs.size + 2) (s1.heap.objs.size + 3) s1.heap.objs.size (s1.heap.objs.size + 1) [s1.heap.objs.size, a] [s1.heap.objs.size + 1, b] :=
    zip_sep2 (fp1 := [a]) (fp2 := [b]) (fun c hc => by rw [List.mem_singleton.mp hc]; exact la) fun c hc => by rw [List.mem_singleton.mp hc]; exact lb
  refine ⟨_, [s1.heap.objs.size + 4, s1.heap.objs.size + 2, s1.heap.objs.size + 3, s1.heap.objs.size, s1.heap.objs.size + 1], _, _, H1, rfl, I2, turn_zipB sep (Nat.ne_of_lt la) (Nat.ne_of_lt (Nat.lt_succ_of_lt lb)), ⟨hz, hTI, ⟨_, _, hTO⟩, .new e1, .new e2⟩, fun c hcm => ?_, q1⟩
  have hle : s1.heap.objs.size ≤ c := by
    rcases mem5 hcm with e | e | e | e | e <;> rw [e]
    · exact Nat.le_add_right _ _
    · exact Nat.le_add_right _ _
    · exact Nat.le_add_right _ _
    · exact Nat.le_refl _
    · exact Nat.le_add_right _ _
  exact I1.fpOk hle (I1.hok.fresh hle)
end

def IteB (K : PySem.W.Frag) (p : Bool) (a : Addr) : It where
  go := fun i H => ∃ (xs : List V) (x : V), SqB K H p a xs ∧ xs[i]? = some x
  yld := fun i H v H' => ∃ T x, v = .ref T ∧ H T = none ∧ H' = upd H T (.tup [.int (i : Nat), x]) ∧ ∀ xs, SqB K H p a xs → xs[i]? = some x
  stop := fun i H => ∃ xs : List V, SqB K H p a xs ∧ i = xs.length
theorem turn_enumB {P : Program} {w : World} {K : PySem.W.Frag} {elts : List Expr} {kk : Nat} {tpos : Pos} {p : Bool} {a e it : Addr} (n1 : e ≠ it) (n2 : a ≠ it) (n3 : e ≠ a) :
    Turn P w K (.Tuple elts kk tpos) (IteB K p a) [e, it] e (fun i h => (∃ old, IsEnum h e it ((i : Nat) : Int) old) ∧ ItB h p it a i) where
  mem := List.mem_cons_self
  obj := fun i h st c hc => by
    obtain ⟨⟨old, he⟩, h1⟩ := st
    have hc' : c = e ∨ c = it := by simpa using hc
    rcases hc' with q | q <;> rw [q]
    · exact ⟨_, he, fun v q => nomatch q⟩
    · exact h1.ob
  keep := fun i h h' st k => by
    obtain ⟨⟨old, he⟩, h1⟩ := st
    exact ⟨⟨old, k e (by simp) _ he⟩, h1.keep (k it (by simp))⟩
  item := by
    intro X hP hw hK hc i pins s σ H E I hf st hg
    subst hP hw hK
    obtain ⟨⟨old, he⟩, h1⟩ := st
    obtain ⟨xs, x, hq, hx⟩ := hg
    obtain ⟨its, rv, p1⟩ := sqb_get I hq
    have l1 := rv.length
    have li : i < its.toArray.size := by
      have := (List.getElem?_eq_some_iff.mp hx).1
      rw [List.size_toArray]; omega
    have hh : X.A.in1.handled = none := I.ok.hd hc
    have hel : e < s.heap.objs.size := Heap.lt_size he
    have hil : it < s.heap.objs.size := by obtain ⟨_, q, _⟩ := h1.ob; exact Heap.lt_size q
    refine wpAny_pyNext_enum_itemC (drawB hh p it a n2 its.toArray) he ⟨h1, p1⟩ li n1 (by simp [n1, n3]) fun u h' tk e1 ho st' hT hsz hk => ?_
    refine ⟨_, rfl, wpAny_letOwnedTupleGo_enum (s := { s with heap := h', toks := tk + 1 }) ho fun h'' he' sb => ?_⟩
    obtain ⟨u1, f1, r1⟩ := rv.get hx
    have q1 : u1 = u := by
      have e1' : its[i]? = some u := by simpa using e1
      rw [f1] at e1'; exact Option.some.inj e1'
    subst q1
    have hT2 : h''.get? s.heap.objs.size = some { cls := .type "tuple", data := .seq #[.int ((i : Nat) : Int) tk, u1] } := (sb.2 _ (Nat.ne_of_gt hel)).trans hT
    have new : ObjOk X.prog X.w (upd H s.heap.objs.size (.tup [.int (i : Nat), x])) h'' s.heap.objs.size (.tup [.int (i : Nat), x]) :=
      ⟨by show 2 ≤ sizeLine; decide, [.int ((i : Nat) : Int) tk, u1], .cons ⟨_, rfl⟩ (.cons r1 .nil), ⟨_, hT2, rfl, _, rfl⟩⟩
    have I1 : Inv X pins σ (upd H s.heap.objs.size (.tup [.int (i : Nat), x])) { s with heap := h'', toks := tk + 1 } :=
      I.turnedNew (t' := tk + 1) (ch := [e, it]) (fun c ob hn q => (sb.2 c fun z => hn (by rw [z]; simp)).trans (hk c ob (fun z => hn (by rw [z]; simp)) (fun z => hn (by rw [z]; simp)) q)) hf (Nat.le_refl _) new
    refine ⟨.ref s.heap.objs.size, _, I1, rfl, ⟨_, x, rfl, I.hok.fresh (Nat.le_refl _), rfl, fun l hl => by rw [sqb_inj I hl hq]; exact hx⟩, ⟨⟨u1, ?_⟩, st'.1.keep fun o q => (sb.2 it (Ne.symm n1)).trans q⟩, fun c hcm => ?_⟩
    · have e2 : ((i + 1 : Nat) : Int) = (i : Int) + 1 := by omega
      rw [e2]; exact he'
    · have hc' : c = e ∨ c = it := by simpa using hcm
      have lt : c < s.heap.objs.size := by
        rcases hc' with q | q <;> rw [q] <;> assumption
      rw [upd_ne (Nat.ne_of_lt lt)]
      exact (hf c hcm).1
  done := by
    intro X hP hw hK hc i pins s σ H E I hf st hg
    subst hP hw hK
    obtain ⟨⟨old, he⟩, h1⟩ := st
    obtain ⟨xs, hq, hx⟩ := hg
    obtain ⟨its, rv, p1⟩ := sqb_get I hq
    have l1 := rv.length
    have hh : X.A.in1.handled = none := I.ok.hd hc
    have z1 : i = its.toArray.size := by rw [List.size_toArray]; omega
    obtain ⟨f0, f1, f2, f3, f4, f5⟩ := hf it (by simp)
    refine wpAny_pyNext_enum_endD (drawB hh p it a n2 its.toArray) he ⟨by rw [← z1]; exact h1, p1⟩ fun h' eb => ⟨rfl, ?_⟩
    exact I.turned (t' := s.toks) (fun c o hn q => eb c o hn q) f0 f1 f3 f4 f5
  self := fun A i s Q E st h => let ⟨⟨_, he⟩, _⟩ := st; wpAny_pyIter_enum he h
theorem walk_enumB {K : PySem.W.Frag} {p : Bool} {a : Addr} {xs : List V} : Walk (IteB K p a) xs.length (fun H => SqB K H p a xs) (YPair (fun i => some (.int (i : Nat))) (fun i => xs[i]?)) := by
  refine ⟨fun i H hi h => ⟨xs, xs[i], h, by simp [hi]⟩, fun H h => ⟨xs, h, rfl⟩, fun i H v H' hi h y => ?_⟩
  obtain ⟨T, x, e1, e2, e3, e4⟩ := y
  exact ⟨T, .int (i : Nat), x, e1, e2, e3, rfl, e4 xs h⟩
theorem enum_newB (p : Bool) (a : Addr) (its : Array Value) :
    Meets (Builtin.«enumerate.__new__» ⟨[.type "enumerate", .ref a], []⟩) (fun _ R s => AtB s.heap p a its ∧
      R (.ok (.ret (.ref (s.heap.push (itOb p a)).objs.size))) { s with heap := (s.heap.push (itOb p a)).push { cls := .type "enumerate", data := .fields #[.none, .bool false, .ref s.heap.objs.size, rawInt 0, .none, .none] } }) :=
  .of_wp fun prog w A R s h => by
    obtain ⟨hp, g, d, tk, os⟩ := s
    obtain ⟨h1, h⟩ := h
    have hsub := sub_enumerate
    have q1 : ∀ {A' : Around} {E : Value → Shared → Prop} {Q : Value → Shared → Prop}, Q (.ref hp.objs.size) ⟨hp.push (itOb p a), g, d, tk, os⟩ → wpAny (model prog w) A' (pyIter (.ref a)) Q E ⟨hp, g, d, tk, os⟩ :=
      fun q => (begB p a its).iter prog w _ _ ⟨hp, g, d, tk, os⟩ _ h1 q
    wp_walk using q1
    refine wpAny_stack_any fun st => wpAny_pure ?_
    split
    · rename_i c _ _ _ _ _
      cases (c == Value.type "enumerate") <;> (wp_walk using q1; exact ⟨_, rfl, h⟩)
    · wp_walk using q1
      exact ⟨_, rfl, h⟩
section
variable {prog : Program} {w : World} {A : Around} {E : Value → Shared → Prop} {s : Shared}
theorem call_enumB {p : Bool} {a : Addr} {its : Array Value} {Q : Value → Shared → Prop} (hL : AtB s.heap p a its)
    (h : ∀ h', IsEnum h' (s.heap.objs.size + 1) s.heap.objs.size 0 .none → h'.get? s.heap.objs.size = some (itOb p a) → (∀ b o, s.heap.get? b = some o → h'.get? b = some o) → Q (.ref (s.heap.objs.size + 1)) { s with heap := h' }) :
    wpAny (model prog w) A (call (.type "enumerate") [.ref a]) Q E s := by
  refine callType_new F.called_enumerate (by decide) (F.typeCall_enumerate_1 _) (F.newCall_enumerate_1 _) (fun obj => F.args_object_init_2 obj _) F.entry_enumerate_new (enum_newB p a its) ⟨hL, ?_⟩
  have hz : (s.heap.push (itOb p a)).objs.size = s.heap.objs.size + 1 := Heap.size_push ..
  have he := Heap.get?_push_size (s.heap.push (itOb p a)) (o := { cls := .type "enumerate", data := .fields #[.none, .bool false, .ref s.heap.objs.size, rawInt 0, .none, .none] }) rfl
  rw [hz] at he
  show _ ∧ _
  rw [hz]
  refine ⟨⟨_, he, rfl⟩, h _ he (Heap.get?_push_of_some _ (Heap.get?_push_size _ ?_)) fun b o x => Heap.get?_push_of_some _ (Heap.get?_push_of_some _ x)⟩
  cases p <;> rfl
end
def iEnumB (K : PySem.W.Frag) (ta : TA) : TI := fun σ H R => ta σ H fun vs H1 => ∃ p a xs, vs = [.ref a] ∧ SqB K H1 p a xs ∧ R (IteB K p a) H1
theorem pi_enumB {X : Cx} {e : Expr} {ta : TA} {p pos tpos : Pos} {elts : List Expr} {kk : Nat} (hg : Gl X "enumerate") (hm : X.mg "enumerate" = none) (ha : PA X [e] ta) (hs : starEach [e] X.env = [(false, eval e X.env)] := by rfl) :
    PI X (.Tuple elts kk tpos) (.Call (.Name "enumerate" p) [e] [] pos) (iEnumB X.K ta) := by
  refine ⟨fun pins s σ H R I h => ?_⟩
  refine Call_ (ld_blt I hg hm boot_enumerate (PyProof.Rows.callWith_type1 (thn (ha.run pos pins s σ H _ I h) fun us s1 ⟨vs, H1, I1, r1, q1⟩ => ?_) hs rfl))
  obtain ⟨p, a, xs, rfl, hq, q⟩ := q1
  obtain ⟨u, rfl, ru⟩ := vals1 r1
  cases ru
  obtain ⟨its, rv, p1⟩ := sqb_get I1 hq
  have la := p1.lt
  refine call_enumB p1 fun h' he hi hk => wpAny_pyIter_enum he ?_
  have I2 : Inv X pins σ H1 { s1 with heap := h' } := I1.kept (t' := s1.toks) hk
  refine ⟨s1.heap.objs.size + 1, [s1.heap.objs.size + 1, s1.heap.objs.size], _, _, H1, rfl, I2, turn_enumB (Nat.succ_ne_self _) (Nat.ne_of_lt la) (Nat.ne_of_gt (Nat.lt_succ_of_lt la)), ⟨⟨.none, he⟩, .new hi⟩, fun c hcm => ?_, q⟩
  have hc' : c = s1.heap.objs.size + 1 ∨ c = s1.heap.objs.size := by simpa using hcm
  have hle : s1.heap.objs.size ≤ c := by
    rcases hc' with z | z <;> rw [z]
    · exact Nat.le_add_right _ _
    · exact Nat.le_refl _
  exact I1.fpOk hle (I1.hok.fresh hle)
end My

set_option Elab.async false
set_option linter.all false
set_option maxRecDepth 100000
set_option maxHeartbeats 4000000
namespace My
open PySem PySem.Spec PyProof.Rows L2

theorem five {c N : Nat} (h : c < N) : c ≠ N ∧ c ≠ N + 1 ∧ c ≠ N + 2 ∧ c ≠ N + 3 ∧ c ≠ N + 4 := by omega
section
variable {X : Cx} {pins : List (Addr × Obj)} {σ : L2.St} {H G : Hp} {s : Shared} {h' : Heap}
theorem laid_many {t' : Nat} (I : Inv X pins σ H s) (k : ∀ b u, s.heap.get? b = some u → h'.get? b = some u) (old : ∀ b, b < s.heap.objs.size → G b = H b)
    (new : ∀ b o, s.heap.objs.size ≤ b → G b = some o → ObjOk X.prog X.w G h' b o) : Inv X pins σ G { s with heap := h', toks := t' } := by
  have up : ∀ b o, H b = some o → G b = some o := fun b o e => by rw [old b (I.hok.lt e)]; exact e
  have lt : ∀ {b : Addr} {o : Obj}, s.heap.get? b = some o → b < s.heap.objs.size := fun e => Heap.lt_size e
  refine I.un ⟨fun b o e _ _ _ => k b o e, fun b o e _ _ _ => ⟨o.slots, k b o e⟩, fun b o e n _ => by rw [old b (lt e)]; exact n, fun b o e _ => ⟨o, k b o e⟩, fun b xs e => up b _ e, fun b o u e => up b _ e, fun b ps e => ⟨#[], by rw [up b _ e]; simp⟩⟩ fun b o e => ?_
  by_cases hb : b < s.heap.objs.size
  · rw [old b hb] at e
    exact (I.hok b o e).stay (fun c u _ q => k c u q) (fun c q => up c _ q) fun c xs q => up c _ q
  · exact new b o (Nat.le_of_not_lt hb) e
def dropF (fp : List Addr) (H : Hp) : Hp := fun c => if c ∈ fp then none else H c
theorem dropF_in {fp : List Addr} {c : Addr} (h : c ∈ fp) : dropF fp H c = none := if_pos h
theorem dropF_out {fp : List Addr} {c : Addr} (h : c ∉ fp) : dropF fp H c = H c := if_neg h
theorem nofs {b : Addr} (I : Inv X pins σ H s) (hb : b ∈ X.fs) : H b = none := by
  obtain ⟨_, o, ho, _⟩ := I.ok.funs.mem hb
  exact I.base.free b o ho (I.ok.frf b hb) fun z => I.ok.exfs b z hb
theorem forget {fp : List Addr} (I : Inv X pins σ H s) (hf : ∀ c ∈ fp, ∃ φ, H c = some (.ext φ)) : Inv X pins σ (dropF fp H) s := by
  have non : ∀ {b : Addr} {o : HO}, H b = some o → (∀ φ, o ≠ .ext φ) → dropF fp H b = some o := fun {b o} e n => by
    rw [dropF_out fun hb => by obtain ⟨φ, z⟩ := hf b hb; rw [e] at z; exact n φ (Option.some.inj z)]
    exact e
  have nn : ∀ {b : Addr}, H b = none → dropF fp H b = none := fun {b} e => by
    unfold dropF
    split
    · rfl
    · exact e
  refine ⟨I.ok, I.os, I.bare, ⟨I.base.keep, I.base.slot, fun b o e n hx => nn (I.base.free b o e n hx), I.base.there, fun b xs e => non (I.base.tups b xs e) (fun _ z => nomatch z), fun b o u e => non (I.base.frzs b o u e) (fun _ z => nomatch z), fun b ps e => ?_⟩, I.loc, I.cell, nn I.free, fun x c e => nn (I.freeC x c e), fun p hp => ?_, fun b u e => ?_, I.len⟩
  · obtain ⟨m, z⟩ := I.base.tbls b ps e
    exact ⟨m, non z (fun _ z => nomatch z)⟩
  · obtain ⟨a, b, c⟩ := I.pin p hp
    exact ⟨a, nn b, c⟩
  · have hb : b ∉ fp := fun hb => by rw [dropF_in hb] at e; cases e
    rw [dropF_out hb] at e
    exact (I.hok b u e).stay (fun c v _ q => q) (fun c q => non q (fun _ z => nomatch z)) fun c xs q => non q (fun _ z => nomatch z)
end
def zO (n0 : Nat) (z TI TO : Addr) : HO := .ext fun h => n0 ≤ z ∧ IsZip h z TI TO .none
def tO (n0 : Nat) (T : Addr) (u v : Value) : HO := .ext fun h => n0 ≤ T ∧ IsTupOf2 h T u v
def iO (n0 : Nat) (p : Bool) (it a : Addr) : HO := .ext fun h => n0 ≤ it ∧ h.get? it = some (itOb p a)
def ZipAt (n0 : Nat) (p q : Bool) (a b z : Addr) (fp : List Addr) (H : Hp) : Prop := ∃ TI TO i1 i2, fp = [z, TI, TO, i1, i2] ∧ ZipSep2 z TI TO i1 i2 [i1, a] [i2, b] ∧ a ≠ i1 ∧ b ≠ i2 ∧
  H z = some (zO n0 z TI TO) ∧ H TI = some (tO n0 TI (.ref i1) (.ref i2)) ∧ H TO = some (tO n0 TO .none .none) ∧ H i1 = some (iO n0 p i1 a) ∧ H i2 = some (iO n0 q i2 b)
def tZipV (n0 : Nat) (K : PySem.W.Frag) (ta : TA) : TE := fun σ H Q => ta σ H fun vs H1 => ∃ p q a b xs ys, vs = [.ref a, .ref b] ∧ SqB K H1 p a xs ∧ SqB K H1 q b ys ∧
  ∀ z fp H2, (∀ c o, H1 c = some o → H2 c = some o) → (∀ c ∈ fp, H1 c = none) → ZipAt n0 p q a b z fp H2 → Q (.ref z) H2
section
variable {X : Cx}
theorem pe_zipV {e e2 : Expr} {ta : TA} {p pos : Pos} (hg : Gl X "zip") (hm : X.mg "zip" = none) (ha : PA X [e, e2] ta)
    (hs : starEach [e, e2] X.env = (false, eval e X.env) :: starEach [e2] X.env := by rfl) (hpl : (backTo pos (starEach [e2] X.env)).any (·.1) = false := by rfl) :
    PE X (.Call (.Name "zip" p) [e, e2] [] pos) (tZipV X.s_0.heap.objs.size X.K ta) := by
  refine ⟨fun pins s σ H Q I h => ?_⟩
  refine Call_ (ld_blt I hg hm PyProof.Rows.boot_zip (PyProof.Rows.callWith_type1 (thn (ha.run pos pins s σ H _ I h) fun us s1 ⟨vs, H1, I1, r1, q1⟩ => ?_) hs hpl))
  obtain ⟨p, q, a, b, xs, ys, rfl, hqx, hqy, q1⟩ := q1
  have e := two_refs r1
  subst e
  obtain ⟨its, rv, p1⟩ := sqb_get I1 hqx
  obtain ⟨its2, rv2, p2⟩ := sqb_get I1 hqy
  have la := p1.lt
  have lb := p2.lt
  refine zip_begins2 (begB p a its.toArray) (begB q b its2.toArray) p1 p2 fun h' hz hTI hTO e1 e2 hsz hk => ?_
  have sep : ZipSep2 (s1.heap.objs.size + 4) (s1.heap.objs.size + 2) (s1.heap.objs.size + 3) s1.heap.objs.size (s1.heap.objs.size + 1) [s1.heap.objs.size, a] [s1.heap.objs.size + 1, b] :=
    zip_sep2 (fp1 := [a]) (fp2 := [b]) (fun c hc => by rw [List.mem_singleton.mp hc]; exact la) fun c hc => by rw [List.mem_singleton.mp hc]; exact lb
  have h0 : X.s_0.heap.objs.size ≤ s1.heap.objs.size := I1.sz
  revert e1 e2 hz hTI hTO sep h0 hsz la lb q1
  generalize hN : s1.heap.objs.size = N
  intro q1 la lb hz hTI hTO e1 e2 hsz sep h0
  have n01 : (N : Nat) ≠ N + 1 := by omega
  have n02 : (N : Nat) ≠ N + 2 := by omega
  have n03 : (N : Nat) ≠ N + 3 := by omega
  have n04 : (N : Nat) ≠ N + 4 := by omega
  have n12 : (N + 1 : Nat) ≠ N + 2 := by omega
  have n13 : (N + 1 : Nat) ≠ N + 3 := by omega
  have n14 : (N + 1 : Nat) ≠ N + 4 := by omega
  have n23 : (N + 2 : Nat) ≠ N + 3 := by omega
  have n24 : (N + 2 : Nat) ≠ N + 4 := by omega
  have n34 : (N + 3 : Nat) ≠ N + 4 := by omega
  generalize hn0 : X.s_0.heap.objs.size = n0 at q1 h0
  let G : Hp := upd (upd (upd (upd (upd H1 N (iO n0 p N a)) (N + 1) (iO n0 q (N + 1) b)) (N + 2) (tO n0 (N + 2) (.ref N) (.ref (N + 1)))) (N + 3) (tO n0 (N + 3) .none .none)) (N + 4) (zO n0 (N + 4) (N + 2) (N + 3))
  have g4 : G (N + 4) = some (zO n0 (N + 4) (N + 2) (N + 3)) := upd_same
  have g3 : G (N + 3) = some (tO n0 (N + 3) .none .none) := by show upd _ _ _ _ = _; rw [upd_ne n34, upd_same]
  have g2 : G (N + 2) = some (tO n0 (N + 2) (.ref N) (.ref (N + 1))) := by show upd _ _ _ _ = _; rw [upd_ne n24, upd_ne n23, upd_same]
  have g1 : G (N + 1) = some (iO n0 q (N + 1) b) := by show upd _ _ _ _ = _; rw [upd_ne n14, upd_ne n13, upd_ne n12, upd_same]
  have g0 : G N = some (iO n0 p N a) := by show upd _ _ _ _ = _; rw [upd_ne n04, upd_ne n03, upd_ne n02, upd_ne n01, upd_same]
  have gx : ∀ c : Addr, c ≠ N → c ≠ N + 1 → c ≠ N + 2 → c ≠ N + 3 → c ≠ N + 4 → G c = H1 c := fun c c0 c1 c2 c3 c4 => by show upd _ _ _ _ = _; rw [upd_ne c4, upd_ne c3, upd_ne c2, upd_ne c1, upd_ne c0]
  have fr : ∀ c : Addr, N ≤ c → H1 c = none := fun c hc => I1.hok.fresh (by rw [hN]; exact hc)
  have I2 : Inv X pins σ G { s1 with heap := h' } := by
    refine laid_many (t' := s1.toks) I1 hk (fun c hc => ?_) fun c o hc e => ?_
    · rw [hN] at hc
      have hc' : (c : Nat) < N := hc
      exact gx c (show (c : Nat) ≠ N by omega) (show (c : Nat) ≠ N + 1 by omega) (show (c : Nat) ≠ N + 2 by omega) (show (c : Nat) ≠ N + 3 by omega) (show (c : Nat) ≠ N + 4 by omega)
    · rw [hN] at hc
      have hc' : N ≤ (c : Nat) := hc
      have le : ∀ k : Nat, n0 ≤ N + k := fun k => Nat.le_trans h0 (Nat.le_add_right _ _)
      by_cases c4 : c = N + 4
      · subst c4; rw [g4] at e; cases e
        exact ⟨⟨le 4, hz⟩, ⟨_, hz⟩, fun a b x kp => ⟨x.1, kp _ x.2⟩⟩
      by_cases c3 : c = N + 3
      · subst c3; rw [g3] at e; cases e
        exact ⟨⟨le 3, hTO⟩, ⟨_, hTO⟩, fun a b x kp => ⟨x.1, kp _ x.2⟩⟩
      by_cases c2 : c = N + 2
      · subst c2; rw [g2] at e; cases e
        exact ⟨⟨le 2, hTI⟩, ⟨_, hTI⟩, fun a b x kp => ⟨x.1, kp _ x.2⟩⟩
      by_cases c1 : c = N + 1
      · subst c1; rw [g1] at e; cases e
        exact ⟨⟨le 1, e2⟩, ⟨_, e2⟩, fun a b x kp => ⟨x.1, kp _ x.2⟩⟩
      by_cases c0 : c = N
      · subst c0; rw [g0] at e; cases e
        exact ⟨⟨le 0, e1⟩, ⟨_, e1⟩, fun a b x kp => ⟨x.1, kp _ x.2⟩⟩
      rw [gx c c0 c1 c2 c3 c4, fr c hc] at e
      cases e
  refine ⟨.ref (N + 4), G, I2, rfl, q1 (N + 4) [N + 4, N + 2, N + 3, N, N + 1] G (fun c o e => ?_) (fun c hc => ?_) ⟨N + 2, N + 3, N, N + 1, rfl, sep, Nat.ne_of_lt la, Nat.ne_of_lt (Nat.lt_succ_of_lt lb), g4, g2, g3, g0, g1⟩⟩
  · have lt : c < N := by rw [← hN]; exact I1.hok.lt e
    obtain ⟨d0, d1, d2, d3, d4⟩ := five lt
    rw [gx c d0 d1 d2 d3 d4]
    exact e
  · refine fr c ?_
    rcases mem5 hc with e | e | e | e | e <;> rw [e]
    · exact Nat.le_add_right _ _
    · exact Nat.le_add_right _ _
    · exact Nat.le_add_right _ _
    · exact Nat.le_refl _
    · exact Nat.le_add_right _ _
def iZipV (n0 : Nat) (K : PySem.W.Frag) (te : TE) : TI := fun σ H R => te σ H fun x H1 => ∃ p q a b z fp, x = .ref z ∧ ZipAt n0 p q a b z fp H1 ∧ R (ItzB K p q a b) (dropF fp H1)
theorem pi_zipV {e : Expr} {te : TE} {tpos : Pos} {elts : List Expr} {kk : Nat} (he : PE X e te) : PI X (.Tuple elts kk tpos) e (iZipV X.s_0.heap.objs.size X.K te) := by
  refine ⟨fun pins s σ H R I h => ?_⟩
  refine thn (he.run pins s σ H _ I h) fun v s1 ⟨x, H1, I1, r1, q1⟩ => ?_
  obtain ⟨p, q, a, b, z, fp, rfl, ⟨TI, TO, i1, i2, rfl, sep, na, nb, gz, gTI, gTO, g1, g2⟩, q1⟩ := q1
  cases r1
  obtain ⟨⟨lz, hz⟩, _⟩ := I1.hok z _ gz
  obtain ⟨⟨lTI, hTI⟩, _⟩ := I1.hok TI _ gTI
  obtain ⟨⟨lTO, hTO⟩, _⟩ := I1.hok TO _ gTO
  obtain ⟨⟨l1, h1⟩, _⟩ := I1.hok i1 _ g1
  obtain ⟨⟨l2, h2⟩, _⟩ := I1.hok i2 _ g2
  have ex : ∀ c ∈ [z, TI, TO, i1, i2], ∃ φ, H1 c = some (.ext φ) := fun c hc => by
    rcases mem5 hc with e | e | e | e | e <;> rw [e]
    · exact ⟨_, gz⟩
    · exact ⟨_, gTI⟩
    · exact ⟨_, gTO⟩
    · exact ⟨_, g1⟩
    · exact ⟨_, g2⟩
  have I2 := forget I1 ex
  refine wpAny_pyIter_zip hz ⟨z, [z, TI, TO, i1, i2], _, _, _, rfl, I2, turn_zipB sep na nb, ⟨hz, hTI, ⟨_, _, hTO⟩, .new h1, .new h2⟩, fun c hc => ?_, q1⟩
  obtain ⟨φ, hx⟩ := ex c hc
  have nn : ∀ {d : Addr}, H1 d = none → d ≠ c := fun e z => by rw [z, hx] at e; cases e
  refine ⟨dropF_in hc, fun e => nn I1.free e.symm, fun e => nn (nofs I1 e) rfl, .inr ?_, fun x d e => nn (I1.freeC x d e), fun pr hp => nn (I1.pin pr hp).2.1⟩
  rcases mem5 hc with e | e | e | e | e <;> rw [e] <;> assumption
end

theorem tup_mul1 (l : Addr) (items : Array Value) (n : Nat) (dd : Option Addr) (sl : Array (Option Value)) (u : Tok) :
    Meets (Builtin.«tuple.__mul__» ⟨[.ref l, .int 1 u], []⟩) (fun _ R s => s.heap.get? l = some { cls := .type "tuple", dict := dd, data := .seq items n, slots := sl } ∧ R (.ok (.ret (Value.ref l))) s) :=
  .of_wp fun prog w A R s h => by
    obtain ⟨hp, g, d, tk, os⟩ := s
    obtain ⟨hl, h⟩ := h
    have f1 := AutoSeq1.idx_int
    have c0 : (decide ((1 : Int) < -(2 ^ 63)) || decide ((1 : Int) ≥ 2 ^ 63)) = false := by decide
    have c1 : (items.isEmpty || (1 : Int) == 1) = true := by simp
    wp_walk using AutoSeq1.wpAny_loadPart' hl
    repeat (first
      | (refine wpAny_ite_false (decide_eq_false (by rw [c0]; exact Bool.false_ne_true)) ?_; wp_walk using AutoSeq1.wpAny_loadPart' hl)
      | (refine wpAny_ite_true (decide_eq_true c1) ?_; wp_walk using AutoSeq1.wpAny_loadPart' hl))
    exact ⟨_, rfl, h⟩
def rRepA (K : PySem.W.Frag) : R2 := fun x y H Q => ∃ l k xs, x = .ref l ∧ y = .int k ∧ H l = some (.tup xs) ∧ xs ≠ [] ∧ 1 ≤ k ∧ k ≤ 1000 ∧ xs.length ≤ 1000 ∧
  ∀ p H', (∀ b o, H b = some o → H' b = some o) → H' p = some (.tup (List.replicate k.toNat xs).flatten) → Q (.ref p) H'
theorem op_repA {X : Cx} : OpR X (binaryOp .Mult) (rRepA X.K) := by
  intro pins s σ H x y v u Q I rx ry h
  obtain ⟨l, k, xs, rfl, rfl, hT, hne, h1, h2, hz, q⟩ := h
  by_cases hk : 2 ≤ k
  · refine op_repT pins s σ H _ _ v u Q I rx ry ⟨l, k, xs, rfl, rfl, .of hT, hne, hk, h2, hz, fun p hp => q p _ (fun b o e => ?_) upd_same⟩
    rw [upd_ne (ne_of_none e hp)]; exact e
  · have k1 : k = 1 := by omega
    subst k1
    cases rx
    obtain ⟨t, rfl⟩ := ry
    obtain ⟨_, its, r, ⟨⟨cls, dd, data, sl⟩, ho, hc, n, hd⟩⟩ := (show ObjOk X.prog X.w H s.heap l (.tup xs) from I.hok l _ hT)
    simp only at hc hd
    subst hc hd
    refine wpAny_binaryOp_repeat_ref (T := "tuple") (U := "int") (by decide) ⟨_, ho, rfl⟩ (fun s' => typeIs_int s' 1 t) noFill_tuple_mul F.fills_int_mul F.slot_int_rmul repeat_tuple F.slot_int_index.lookup
      (call_meets F.slot_int_rmul (typeIs_int s 1 t) F.entry_int_rmul (F.args_int_rmul_2 _ _) (int_rmul_tuple 1 t l its.toArray n dd sl)
        ⟨ho, rfl, ⟨_, ho, rfl⟩, call_meets F.slot_tuple_mul ⟨_, ho, rfl⟩ F.entry_tuple_mul (F.args_tuple_mul_2 _ _) (tup_mul1 l its.toArray n dd sl t) ⟨ho, ?_⟩⟩)
    refine ⟨.ref l, H, I, rfl, q l H (fun _ _ e => e) ?_⟩
    have e : (List.replicate (1 : Int).toNat xs).flatten = xs := by
      show (List.replicate 1 xs).flatten = xs
      simp
    rw [e]
    exact hT

theorem str_at : ∀ {us : List Value} {xs : List Str}, Vals (xs.map V.str) us → ∀ (i : Nat) (v : Value), us[i]? = some v → ∃ x t, xs[i]? = some x ∧ v = .str x t
  | [], [], .nil, i, v, h => by simp at h
  | u :: us, x :: xs, .cons r t, 0, v, h => by
    obtain ⟨tk, rfl⟩ := r
    exact ⟨x, tk, rfl, by simpa using h.symm⟩
  | u :: us, x :: xs, .cons r t, i + 1, v, h => by
    obtain ⟨y, tk, e1, e2⟩ := str_at t i v (by simpa using h)
    exact ⟨y, tk, by simpa using e1, e2⟩
section
variable {prog : Program} {w : World} {A : Around} {R : Result → Shared → Prop} {I S : Addr} {fp wr : List Addr} {G : Array GenState → Array GenState → Prop} {n : Nat} {P : Nat → Value → Prop} {St : Nat → Shared → Prop}
abbrev inTake (xs : List Str) (i : Nat) : Str → Bool := fun y => decide (y ∈ xs.take i)
theorem SetOf_stays {knd : KeyKind prog w Str} {h h' : Heap} {f : Str → Bool} {m : Nat} (x : h.SetOf knd S f m) (k : ∀ o, h.get? S = some o → h'.get? S = some o) : h'.SetOf knd S f m := by
  obtain ⟨o, es, ep, tb, ho, r⟩ := x
  exact ⟨o, es, ep, tb, k o ho, r⟩
theorem set_fill (W : WalksS prog w A.in1 I fp wr G n P St) (hSf : S ∉ fp) (xs : List Str) (hsz : xs.length = n) (hnd : xs.Nodup) (hn : n ≤ 1000)
    (hval : ∀ i v, P i v → ∃ x t, xs[i]? = some x ∧ v = .str x t) :
    ∀ (k i : Nat) (s : Shared), n - i = k → i ≤ n → St i s → s.heap.SetOf (PySem.strKind prog w) S (inTake xs i) i →
      (∀ s', Moved (S :: wr) G s s' → s'.heap.SetOf (PySem.strKind prog w) S (inTake xs n) n → R (.ok (.ret .none)) s') → codeAny (model prog w) A (.builtin "set.update.loop" ⟨[.ref S, .ref I], []⟩) R s := by
  have hSw : S ∉ wr := fun h => hSf (W.sub _ h)
  have sub : ∀ b ∈ wr, b ∈ S :: wr := fun b hb => List.mem_cons_of_mem _ hb
  intro k
  induction k with
  | zero =>
    intro i s hk hi hst hS hR
    obtain rfl : i = n := by omega
    refine codeAny_builtin PyProof.Rows.F.entry_set_update_loop ?_
    rw [Around.under_plainId PyProof.Rows.F.plain_set_update_loop _]
    show wpAny _ A.in1 (pyNext (.ref I) >>= _) _ _ s
    refine wpAny_bind (W.done s _ _ hst fun s' hm => ?_)
    show wpAny _ A.in1 (ret Value.none) _ _ s'
    exact wpAny_pure (hR s' (hm.mono sub) (SetOf_stays hS fun o e => hm.heap S o hSw e))
  | succ k ih =>
    intro i s hk hi hst hS hR
    have hlt : i < n := by omega
    refine codeAny_builtin PyProof.Rows.F.entry_set_update_loop ?_
    rw [Around.under_plainId PyProof.Rows.F.plain_set_update_loop _]
    show wpAny _ A.in1 (pyNext (.ref I) >>= _) _ _ s
    refine wpAny_bind (W.item i s _ _ hlt hst fun v s' hP hst' hm => ?_)
    obtain ⟨x, t, hx, rfl⟩ := hval i v hP
    have hS' : s'.heap.SetOf (PySem.strKind prog w) S (inTake xs i) i := SetOf_stays hS fun o e => hm.heap S o hSw e
    have hnew : inTake xs i x = false := decide_eq_false fun q => by
      obtain ⟨j, hj⟩ := List.mem_iff_getElem?.mp q
      rw [List.getElem?_take] at hj
      by_cases hji : j < i
      · rw [if_pos hji] at hj
        exact absurd (nd_ix hnd hj hx) (by omega)
      · rw [if_neg hji] at hj; cases hj
    show wpAny _ A.in1 (holding [Value.str x t] (setAdd S (.str x t)) >>= _) _ _ s'
    refine wpAny_bind (wpAny_holding ?_)
    unfold setAdd
    refine wpAny_holding (wpAny_bind ((PySem.strKind prog w).pyHash (k := x) (strKind_is _ _ _ _) ?_))
    refine wpAny_setAddHashed_of (knd := PySem.strKind prog w) (s := { s' with toks := s'.toks + 1 }) (strKind_is _ _ _ _) rfl hS' (by unfold scanBound; omega) fun h' sb hS2 => ?_
    have hS3 : h'.SetOf (PySem.strKind prog w) S (inTake xs (i + 1)) (i + 1) := by
      refine SetOf_congr hS2 (fun y => ?_) (by rw [hnew]; rfl)
      show (decide (y ∈ xs.take i) || decide (y = x)) = decide (y ∈ xs.take (i + 1))
      rw [List.take_add_one, hx, ← Bool.decide_or]
      refine decide_eq_decide.mpr ?_
      rw [List.mem_append]
      simp
    refine wpAny_pure ⟨plainId_quiet PyProof.Rows.F.plain_set_update_loop _, ih (i + 1) _ (by omega) hlt (W.frame _ s' _ _ hst' (Nat.le_succ _) fun b hb o e => ?_) hS3 fun s2 hm2 hS4 => hR s2 ?_ hS4⟩
    · rw [sb.2 b fun z : b = S => hSf (z ▸ hb)]; exact e
    · refine Moved.trans W.gtrans ((hm.mono sub).then_heap (Nat.le_succ _) fun b o hb e => ?_) hm2
      rw [sb.2 b fun z : b = S => hb (by rw [z]; exact List.mem_cons_self)]; exact e
end
end My

set_option Elab.async false
set_option linter.all false
set_option maxRecDepth 100000
set_option maxHeartbeats 8000000
namespace My
open PySem PySem.Spec PyProof.Rows L2
section
variable {prog : Program} {w : World} {A : Around} {E : Value → Shared → Prop} {s : Shared}
abbrev newSet (led : Bool) : Obj := { cls := .type "set", dict := none, data := .set #[] 0 (.fresh 0 0 led) }
theorem walkB {A' : Around} (hh : A'.handled = none) (b : Bool) (it a : Addr) (hne : a ≠ it) (its : Array Value) :
    Walks prog w A' it [it, a] [it] its.size (fun i v => its[i]? = some v) (fun i h => ItB h b it a i ∧ AtB h b a its) := by
  cases b with
  | true => exact Walks.list hh it a hne its
  | false => exact Walks.tuple hh it a hne its
theorem AtB.up {h h' : Heap} {b : Bool} {a : Addr} {its : Array Value} (x : AtB h b a its) (k : ∀ o, h.get? a = some o → h'.get? a = some o) : AtB h' b a its := by
  cases b with
  | true => obtain ⟨o, e, r⟩ := (show h.IsList a its from x); exact ⟨o, k o e, r⟩
  | false => obtain ⟨o, e, r⟩ := (show h.IsTuple a its from x); exact ⟨o, k o e, r⟩
theorem set_turns {a : Addr} {its : List Value} {xs : List Str} {led p : Bool} {hp : Heap} {A' : Around} {R : Result → Shared → Prop} (hh : A'.in1.handled = none) (hl : AtB hp p a its.toArray) (r : Vals (xs.map V.str) its) (hnd : xs.Nodup) (hn : xs.length ≤ 1000)
    {g : Array GenState} {d : Drawn} {tk : Nat} {os : _}
    (h : ∀ (h' : Heap) (tk' : Nat), h'.SetOf (PySem.strKind prog w) hp.objs.size (inTake xs xs.length) xs.length → (∀ b o, b < hp.objs.size → hp.get? b = some o → h'.get? b = some o) → R (.ok (.ret .none)) ⟨h', g, d, tk', os⟩) :
    codeAny (model prog w) A' (.builtin "set.update.loop" ⟨[.ref hp.objs.size, .ref (hp.push (newSet led)).objs.size], []⟩) R ⟨(hp.push (newSet led)).push (itOb p a), g, d, tk, os⟩ := by
  have la := hl.lt
  have hz : (hp.push (newSet led)).objs.size = hp.objs.size + 1 := Heap.size_push ..
  have l1 : its.toArray.size = xs.length := by rw [List.size_toArray, ← r.length, List.length_map]
  have na : a ≠ (hp.push (newSet led)).objs.size := by rw [hz]; exact Nat.ne_of_lt (Nat.lt_succ_of_lt la)
  have nS : hp.objs.size ∉ [(hp.push (newSet led)).objs.size, a] := by
    rw [hz]
    simp only [List.mem_cons, List.not_mem_nil, or_false, not_or]
    exact ⟨Nat.ne_of_lt (Nat.lt_succ_self _), Nat.ne_of_gt la⟩
  have hS : ((hp.push (newSet led)).push (itOb p a)).get? hp.objs.size = some (newSet led) := Heap.get?_push_of_some _ (Heap.get?_push_size _ rfl)
  refine set_fill (walkB hh p _ a na its.toArray).toS nS xs l1.symm hnd (by rw [l1]; exact hn) (fun i v e => str_at r i v (by simpa using e)) (its.toArray.size - 0) 0 _ (by omega) (Nat.zero_le _) ⟨.new (Heap.get?_push_size _ ?_), hl.up fun o e => Heap.get?_push_of_some _ (Heap.get?_push_of_some _ e)⟩ ?_ ?_
  · cases p <;> rfl
  · exact SetOf_congr ((setObjOf_fresh (knd := PySem.strKind prog w) led).setOf hS (by unfold scanBound; omega)) (fun _ => by simp [inTake]) rfl
  · rintro ⟨h', g', d', tk', os'⟩ hm hq
    obtain rfl : g' = g := hm.gens
    obtain rfl : d' = d := hm.drawn
    obtain rfl : os' = os := hm.os
    rw [l1] at hq
    refine h h' tk' hq fun b o hb e => hm.heap b o ?_ (Heap.get?_push_of_some _ (Heap.get?_push_of_some _ e))
    rw [hz]
    simp only [List.mem_cons, List.not_mem_nil, or_false, not_or]
    exact ⟨Nat.ne_of_lt hb, Nat.ne_of_lt (Nat.lt_succ_of_lt hb)⟩
theorem call_setB {p : Bool} {a : Addr} {its : List Value} {xs : List Str} {Q : Value → Shared → Prop} (hh : A.handled = none) (hl : AtB s.heap p a its.toArray) (r : Vals (xs.map V.str) its) (hnd : xs.Nodup) (hn : xs.length ≤ 1000)
    (h : ∀ (h' : Heap) (tk : Nat), h'.SetOf (PySem.strKind prog w) s.heap.objs.size (inTake xs xs.length) xs.length → (∀ b o, b < s.heap.objs.size → s.heap.get? b = some o → h'.get? b = some o) → Q (.ref s.heap.objs.size) { s with heap := h', toks := tk }) :
    wpAny (model prog w) A (call (.type "set") [.ref a]) Q E s := by
  obtain ⟨c, tl, hmro⟩ := PySem.F.called_set.mro
  have hmade := PySem.F.called_set.made
  have hsub := PySem.F.called_set.sub
  have h1 := PySem.F.called_set.notType
  have h2 := PySem.F.called_set.canCreate
  have hct := PySem.F.typeCall_set_1 (.ref a)
  refine wpAny_call (codeAny_of_tree ?_)
  show wpAny _ _ (callAny (.type "set") _) _ _ _
  refine wpAny_pure ⟨Code.quiet_builtin _ (by decide +kernel), codeAny_builtin PySem.F.entry_type_call ?_⟩
  rw [Around.under_plain (weight_type_call_type "set" [.ref a] []) rfl]
  repeat (any_goals (first | assumption | wp_step))
  refine codeAny_mono (code_set_new_1 (.ref a) (E := E) (Q₁ := fun obj s1 => ∃ led : Bool, obj = .ref s.heap.objs.size ∧ s1 = { s with heap := s.heap.push (newSet led) }) fun led => ⟨led, rfl, rfl⟩) fun r1 s1 hr1 => ?_
  cases r1 with
  | error e => exact hr1
  | ok f1 =>
    cases f1 with
    | ret obj =>
      obtain ⟨led, rfl, rfl⟩ := hr1
      have hS : (s.heap.push (newSet led)).get? s.heap.objs.size = some (newSet led) := Heap.get?_push_size _ rfl
      have hT : Shared.TypeIs { s with heap := s.heap.push (newSet led) } (.ref s.heap.objs.size) "set" := ⟨_, hS, rfl⟩
      have hli := PySem.F.called_set.init.lookup
      have hbi := PySem.F.called_set.init.bind (.ref s.heap.objs.size)
      repeat (any_goals (first | assumption | wp_step))
      refine codeAny_mono (codeAny_call_builtin (R := wants (fun v s2 => v = .none ∧ ∃ h' tk, s2 = { s with heap := h', toks := tk } ∧ h'.SetOf (PySem.strKind prog w) s.heap.objs.size (inTake xs xs.length) xs.length ∧
          (∀ b o, b < s.heap.objs.size → s.heap.get? b = some o → h'.get? b = some o)) E) PySem.F.called_set.init.plain PySem.F.entry_set_init (check_set_init_1 hT ?_)) fun r2 s2 hr2 => ?_
      · have hh3 : A.in1.in1.in1.handled = none := by simp [hh]
        have hup : AtB (s.heap.push (newSet led)) p a its.toArray := hl.up fun o e => Heap.get?_push_of_some _ e
        cases p with
        | true =>
          obtain ⟨⟨oc, od, ot, osl⟩, ho, hc, nl, hd⟩ := (show (s.heap.push (newSet led)).IsList a its.toArray from hup)
          simp only at hc hd
          subst hc hd
          have f1 := PySem.F.sub_list_set
          have f2 := PySem.F.sub_list_frozenset
          have f3 : (Value.type "list" == Value.type "dict") = false := by decide
          unfold Builtin.«set.__init__» noKeywords Builtin.Frozenset.updateFrom
          generalize hPI : pyIter = PI
          wp_walk
          subst hPI
          refine wpAny_pyIter_list (show (s.heap.push (newSet led)).IsList a its.toArray from hup) ?_
          refine wpAny_bind (wpAny_runValue ?_)
          refine set_turns (p := true) hh3 hl r hnd hn fun h' tk' hq hk => ?_
          show wpAny _ _ _ _ _ _
          refine wpAny_pure ?_
          show wpAny _ _ (ret Value.none) _ _ _
          exact wpAny_pure ⟨rfl, h', tk', rfl, hq, hk⟩
        | false =>
          obtain ⟨⟨oc, od, ot, osl⟩, ho, hc, nl, hd⟩ := (show (s.heap.push (newSet led)).IsTuple a its.toArray from hup)
          simp only at hc hd
          subst hc hd
          have f1 := PySem.F.sub_tuple_set
          have f2 := PySem.F.sub_tuple_frozenset
          have f3 : (Value.type "tuple" == Value.type "dict") = false := by decide
          unfold Builtin.«set.__init__» noKeywords Builtin.Frozenset.updateFrom
          generalize hPI : pyIter = PI
          wp_walk
          subst hPI
          refine wpAny_pyIter_tuple (show (s.heap.push (newSet led)).IsTuple a its.toArray from hup) ?_
          refine wpAny_bind (wpAny_runValue ?_)
          refine set_turns (p := false) hh3 hl r hnd hn fun h' tk' hq hk => ?_
          show wpAny _ _ _ _ _ _
          refine wpAny_pure ?_
          show wpAny _ _ (ret Value.none) _ _ _
          exact wpAny_pure ⟨rfl, h', tk', rfl, hq, hk⟩
      · cases r2 with
        | error e => exact hr2
        | ok f2 =>
          cases f2 with
          | ret v =>
            obtain ⟨rfl, h', tk, rfl, hq, hk⟩ := hr2
            repeat (any_goals (first | assumption | wp_step))
            exact h _ _ hq hk
          | _ => exact hr2.elim
    | _ => exact hr1.elim
end
def tLenSetB (K : PySem.W.Frag) (ta : TE) : TE := fun σ H Q => ta σ H fun x H1 => ∃ p a, ∃ xs : List Str, x = .ref a ∧ SqB K H1 p a (xs.map V.str) ∧ xs.Nodup ∧ xs.length ≤ 1000 ∧ Q (.int xs.length) H1
theorem pe_lenSetB {X : Cx} {a : Expr} {ta : TE} {p p2 q pos : Pos} (hc : X.calm = true) (hg : Gl X "len") (hm : X.mg "len" = none) (hg2 : Gl X "set") (hm2 : X.mg "set" = none) (ha : PE X a ta)
    (na : starEach [a] X.env = (false, eval a X.env) :: starEach [] X.env := by rfl) : PE X (.Call (.Name "len" p) [.Call (.Name "set" p2) [a] [] q] [] pos) (tLenSetB X.K ta) := by
  refine ⟨fun pins s σ H Q I h => ?_⟩
  refine Call_ (ld_blt I hg hm boot_len (callWith_builtin1 (args_cons ?_ rfl) rfl rfl))
  refine Call_ (ld_blt I hg2 hm2 boot_set (callWith_type1 (args_cons (thn (ha.run pins s σ H _ I h) fun v s1 ⟨x, H1, I1, r1, q1⟩ => args_nil ?_) na) na rfl))
  obtain ⟨p, l, xs, rfl, hq, hnd, hl, q1⟩ := q1
  cases r1
  obtain ⟨its, r, p1⟩ := sqb_get I1 hq
  refine call_setB (I1.ok.hd hc) p1 r hnd hl fun h' tk hS hk => args_nil ?_
  obtain ⟨o, es, ep, t, ho, hex, hd, _, _, _, hf, hn⟩ := hS
  have I2 : Inv X pins σ H1 { s1 with heap := h', toks := tk } := I1.kept fun b o e => hk b o (Heap.lt_size e) e
  exact call_len_set ho hex hd hf (by rw [hn] <;> omega) ⟨.int xs.length, H1, I2.tok _, ⟨_, by rw [hn]⟩, q1⟩
end My

set_option Elab.async false
set_option linter.all false
set_option maxRecDepth 100000
set_option maxHeartbeats 4000000
namespace My
open PySem PySem.Spec PyProof.Rows L2
abbrev prog0 : Program := PySem.Challenge.pw_patchlots_k78_whole_searches
def top (i : Nat) : Stmt := prog0.main.body.getD i (.Pass ⟨0, 0, 0, 0⟩)
abbrev s_is_list : Stmt := top 9
abbrev s_is_integer : Stmt := top 10
abbrev s_is_name : Stmt := top 11
abbrev s_are_names : Stmt := top 13
abbrev s_checked_suspects : Stmt := top 14
abbrev s_checked_askings : Stmt := top 15
abbrev s_checked_lies : Stmt := top 16
abbrev s_never_parted : Stmt := top 18
abbrev s_fewest_of : Stmt := top 19
abbrev s_fewest_askings : Stmt := top 20
abbrev s_first_right : Stmt := top 21
abbrev s_tree_from : Stmt := top 22
abbrev s_search : Stmt := top 23
abbrev s__law_m_suspects : Stmt := top 25
abbrev s__law_m_after : Stmt := top 26
abbrev s__law_m_left : Stmt := top 27
abbrev s__law_m_is_enough : Stmt := top 28
abbrev s__law_m_fewest : Stmt := top 29
abbrev s__law_m_is_tree : Stmt := top 30
abbrev s__law_m_height : Stmt := top 31
abbrev s__law_start : Stmt := top 32
abbrev s__law_draw : Stmt := top 33
abbrev s__law_pick : Stmt := top 34
abbrev s__law_mixed : Stmt := top 35
abbrev s__law_same : Stmt := top 36
abbrev s__law_known_right : Stmt := top 37
abbrev s__law_is_told : Stmt := top 38
abbrev s_law : Stmt := top 39
abbrev m___init__ : Stmt := inClass (top 17) 0
abbrev m_begun : Stmt := inClass (top 17) 1
abbrev m_behind_answer : Stmt := inClass (top 17) 2
abbrev m_left_ones : Stmt := inClass (top 17) 4
abbrev m_is_enough : Stmt := inClass (top 17) 5
abbrev m_is_right : Stmt := inClass (top 17) 6
abbrev m_unparted : Stmt := inClass (top 17) 7
abbrev m_fewest_from : Stmt := inClass (top 17) 8
def d_is_list : He.DefD := ⟨("is_list", none), "is_list", "is_list", defArgs s_is_list, defBody s_is_list, defScope s_is_list, [], []⟩
def d_is_integer : He.DefD := ⟨("is_integer", none), "is_integer", "is_integer", defArgs s_is_integer, defBody s_is_integer, defScope s_is_integer, [], []⟩
def d_is_name : He.DefD := ⟨("is_name", none), "is_name", "is_name", defArgs s_is_name, defBody s_is_name, defScope s_is_name, [], []⟩
def d_are_names : He.DefD := ⟨("are_names", none), "are_names", "are_names", defArgs s_are_names, defBody s_are_names, defScope s_are_names, [], []⟩
def d_checked_suspects : He.DefD := ⟨("checked_suspects", none), "checked_suspects", "checked_suspects", defArgs s_checked_suspects, defBody s_checked_suspects, defScope s_checked_suspects, [], []⟩
def d_checked_askings : He.DefD := ⟨("checked_askings", none), "checked_askings", "checked_askings", defArgs s_checked_askings, defBody s_checked_askings, defScope s_checked_askings, [], []⟩
def d_checked_lies : He.DefD := ⟨("checked_lies", none), "checked_lies", "checked_lies", defArgs s_checked_lies, defBody s_checked_lies, defScope s_checked_lies, [], []⟩
def d_never_parted : He.DefD := ⟨("never_parted", none), "never_parted", "never_parted", defArgs s_never_parted, defBody s_never_parted, defScope s_never_parted, [], []⟩
def d_fewest_of : He.DefD := ⟨("fewest_of", none), "fewest_of", "fewest_of", defArgs s_fewest_of, defBody s_fewest_of, defScope s_fewest_of, [], []⟩
def d_fewest_askings : He.DefD := ⟨("fewest_askings", none), "fewest_askings", "fewest_askings", defArgs s_fewest_askings, defBody s_fewest_askings, defScope s_fewest_askings, [.int 0], []⟩
def d_first_right : He.DefD := ⟨("first_right", none), "first_right", "first_right", defArgs s_first_right, defBody s_first_right, defScope s_first_right, [], []⟩
def d_tree_from : He.DefD := ⟨("tree_from", none), "tree_from", "tree_from", defArgs s_tree_from, defBody s_tree_from, defScope s_tree_from, [], []⟩
def d_search : He.DefD := ⟨("search", none), "search", "search", defArgs s_search, defBody s_search, defScope s_search, [.int 0], []⟩
def d__law_m_suspects : He.DefD := ⟨("_law_m_suspects", none), "_law_m_suspects", "_law_m_suspects", defArgs s__law_m_suspects, defBody s__law_m_suspects, defScope s__law_m_suspects, [], []⟩
def d__law_m_after : He.DefD := ⟨("_law_m_after", none), "_law_m_after", "_law_m_after", defArgs s__law_m_after, defBody s__law_m_after, defScope s__law_m_after, [], []⟩
def d__law_m_left : He.DefD := ⟨("_law_m_left", none), "_law_m_left", "_law_m_left", defArgs s__law_m_left, defBody s__law_m_left, defScope s__law_m_left, [], []⟩
def d__law_m_is_enough : He.DefD := ⟨("_law_m_is_enough", none), "_law_m_is_enough", "_law_m_is_enough", defArgs s__law_m_is_enough, defBody s__law_m_is_enough, defScope s__law_m_is_enough, [], []⟩
def d__law_m_fewest : He.DefD := ⟨("_law_m_fewest", none), "_law_m_fewest", "_law_m_fewest", defArgs s__law_m_fewest, defBody s__law_m_fewest, defScope s__law_m_fewest, [], []⟩
def d__law_m_is_tree : He.DefD := ⟨("_law_m_is_tree", none), "_law_m_is_tree", "_law_m_is_tree", defArgs s__law_m_is_tree, defBody s__law_m_is_tree, defScope s__law_m_is_tree, [], []⟩
def d__law_m_height : He.DefD := ⟨("_law_m_height", none), "_law_m_height", "_law_m_height", defArgs s__law_m_height, defBody s__law_m_height, defScope s__law_m_height, [], []⟩
def d__law_start : He.DefD := ⟨("_law_start", none), "_law_start", "_law_start", defArgs s__law_start, defBody s__law_start, defScope s__law_start, [], []⟩
def d__law_draw : He.DefD := ⟨("_law_draw", none), "_law_draw", "_law_draw", defArgs s__law_draw, defBody s__law_draw, defScope s__law_draw, [], []⟩
def d__law_pick : He.DefD := ⟨("_law_pick", none), "_law_pick", "_law_pick", defArgs s__law_pick, defBody s__law_pick, defScope s__law_pick, [], []⟩
def d__law_mixed : He.DefD := ⟨("_law_mixed", none), "_law_mixed", "_law_mixed", defArgs s__law_mixed, defBody s__law_mixed, defScope s__law_mixed, [], []⟩
def d__law_same : He.DefD := ⟨("_law_same", none), "_law_same", "_law_same", defArgs s__law_same, defBody s__law_same, defScope s__law_same, [], []⟩
def d__law_known_right : He.DefD := ⟨("_law_known_right", none), "_law_known_right", "_law_known_right", defArgs s__law_known_right, defBody s__law_known_right, defScope s__law_known_right, [], []⟩
def d__law_is_told : He.DefD := ⟨("_law_is_told", none), "_law_is_told", "_law_is_told", defArgs s__law_is_told, defBody s__law_is_told, defScope s__law_is_told, [], []⟩
def d_law : He.DefD := ⟨("law", none), "law", "law", defArgs s_law, defBody s_law, defScope s_law, [], []⟩
def dm___init__ : He.DefD := ⟨("Hunt", some "__init__"), "__init__", "Hunt.__init__", defArgs m___init__, defBody m___init__, defScope m___init__, [], []⟩
def dm_begun : He.DefD := ⟨("Hunt", some "begun"), "begun", "Hunt.begun", defArgs m_begun, defBody m_begun, defScope m_begun, [], []⟩
def dm_behind_answer : He.DefD := ⟨("Hunt", some "behind_answer"), "behind_answer", "Hunt.behind_answer", defArgs m_behind_answer, defBody m_behind_answer, defScope m_behind_answer, [], []⟩
def dm_left_ones : He.DefD := ⟨("Hunt", some "left_ones"), "left_ones", "Hunt.left_ones", defArgs m_left_ones, defBody m_left_ones, defScope m_left_ones, [], []⟩
def dm_is_enough : He.DefD := ⟨("Hunt", some "is_enough"), "is_enough", "Hunt.is_enough", defArgs m_is_enough, defBody m_is_enough, defScope m_is_enough, [], []⟩
def dm_is_right : He.DefD := ⟨("Hunt", some "is_right"), "is_right", "Hunt.is_right", defArgs m_is_right, defBody m_is_right, defScope m_is_right, [], []⟩
def dm_unparted : He.DefD := ⟨("Hunt", some "unparted"), "unparted", "Hunt.unparted", defArgs m_unparted, defBody m_unparted, defScope m_unparted, [], []⟩
def dm_fewest_from : He.DefD := ⟨("Hunt", some "fewest_from"), "fewest_from", "Hunt.fewest_from", defArgs m_fewest_from, defBody m_fewest_from, defScope m_fewest_from, [], []⟩
def fn : List He.DefD := [d_is_list, d_is_integer, d_is_name, d_are_names, d_checked_suspects, d_checked_askings, d_checked_lies, d_never_parted, d_fewest_of, d_fewest_askings, d_first_right, d_tree_from, d_search, d__law_m_suspects, d__law_m_after, d__law_m_left, d__law_m_is_enough, d__law_m_fewest, d__law_m_is_tree, d__law_m_height, d__law_start, d__law_draw, d__law_pick, d__law_mixed, d__law_same, d__law_known_right, d__law_is_told, d_law, dm___init__, dm_begun, dm_behind_answer, dm_left_ones, dm_is_enough, dm_is_right, dm_unparted, dm_fewest_from]
def fa : List He.Fa := [.glo "is_list", .glo "is_integer", .glo "is_name", .glo "are_names", .glo "checked_suspects", .glo "checked_askings", .glo "checked_lies", .glo "never_parted", .glo "fewest_of", .glo "fewest_askings", .glo "first_right", .glo "tree_from", .glo "search", .glo "_law_m_suspects", .glo "_law_m_after", .glo "_law_m_left", .glo "_law_m_is_enough", .glo "_law_m_fewest", .glo "_law_m_is_tree", .glo "_law_m_height", .glo "_law_start", .glo "_law_draw", .glo "_law_pick", .glo "_law_mixed", .glo "_law_same", .glo "_law_known_right", .glo "_law_is_told", .glo "law", .glo "Hunt", .free "isinstance", .free "list", .free "tuple", .free "int", .free "bool", .free "len", .free "str", .free "set", .free "enumerate", .free "min", .free "max", .free "range", .free "zip", .free "all", .free "any", .free "dict", .str "SMALL" "abcdefghijklmnopqrstuvwxyz", .str "FIGURES" "0123456789", .cls "Hunt", .noat "Hunt" "ones", .noat "Hunt" "most", .noat "Hunt" "signs", .noat "Hunt" "known", .meth "Hunt" "begun", .meth "Hunt" "behind_answer", .meth "Hunt" "left_ones", .meth "Hunt" "is_enough", .meth "Hunt" "is_right", .meth "Hunt" "unparted", .meth "Hunt" "fewest_from", .mkr "Hunt"]
structure TX (K : PySem.W.Frag) (mg : Str → Option Value) : Prop where
  hp : ∃ h : Heap, K.In h ∧ h.Ns mainGlobals mg
  sy : He.SaysD fa fn K
abbrev CH (K : PySem.W.Frag) : Addr := He.ga K "Hunt"
section
variable {K : PySem.W.Frag} {mg : Str → Option Value}
theorem TX.g_is_list (T : TX K mg) : mg "is_list" = some (.ref (He.ga K "is_list")) := let ⟨_, a, b⟩ := T.hp; He.glo_ok a b (T.sy.fact 0 (f := .glo "is_list") rfl)
theorem TX.g_is_integer (T : TX K mg) : mg "is_integer" = some (.ref (He.ga K "is_integer")) := let ⟨_, a, b⟩ := T.hp; He.glo_ok a b (T.sy.fact 1 (f := .glo "is_integer") rfl)
theorem TX.g_is_name (T : TX K mg) : mg "is_name" = some (.ref (He.ga K "is_name")) := let ⟨_, a, b⟩ := T.hp; He.glo_ok a b (T.sy.fact 2 (f := .glo "is_name") rfl)
theorem TX.g_are_names (T : TX K mg) : mg "are_names" = some (.ref (He.ga K "are_names")) := let ⟨_, a, b⟩ := T.hp; He.glo_ok a b (T.sy.fact 3 (f := .glo "are_names") rfl)
theorem TX.g_checked_suspects (T : TX K mg) : mg "checked_suspects" = some (.ref (He.ga K "checked_suspects")) := let ⟨_, a, b⟩ := T.hp; He.glo_ok a b (T.sy.fact 4 (f := .glo "checked_suspects") rfl)
theorem TX.g_checked_askings (T : TX K mg) : mg "checked_askings" = some (.ref (He.ga K "checked_askings")) := let ⟨_, a, b⟩ := T.hp; He.glo_ok a b (T.sy.fact 5 (f := .glo "checked_askings") rfl)
theorem TX.g_checked_lies (T : TX K mg) : mg "checked_lies" = some (.ref (He.ga K "checked_lies")) := let ⟨_, a, b⟩ := T.hp; He.glo_ok a b (T.sy.fact 6 (f := .glo "checked_lies") rfl)
theorem TX.g_never_parted (T : TX K mg) : mg "never_parted" = some (.ref (He.ga K "never_parted")) := let ⟨_, a, b⟩ := T.hp; He.glo_ok a b (T.sy.fact 7 (f := .glo "never_parted") rfl)
theorem TX.g_fewest_of (T : TX K mg) : mg "fewest_of" = some (.ref (He.ga K "fewest_of")) := let ⟨_, a, b⟩ := T.hp; He.glo_ok a b (T.sy.fact 8 (f := .glo "fewest_of") rfl)
theorem TX.g_fewest_askings (T : TX K mg) : mg "fewest_askings" = some (.ref (He.ga K "fewest_askings")) := let ⟨_, a, b⟩ := T.hp; He.glo_ok a b (T.sy.fact 9 (f := .glo "fewest_askings") rfl)
theorem TX.g_first_right (T : TX K mg) : mg "first_right" = some (.ref (He.ga K "first_right")) := let ⟨_, a, b⟩ := T.hp; He.glo_ok a b (T.sy.fact 10 (f := .glo "first_right") rfl)
theorem TX.g_tree_from (T : TX K mg) : mg "tree_from" = some (.ref (He.ga K "tree_from")) := let ⟨_, a, b⟩ := T.hp; He.glo_ok a b (T.sy.fact 11 (f := .glo "tree_from") rfl)
theorem TX.g_search (T : TX K mg) : mg "search" = some (.ref (He.ga K "search")) := let ⟨_, a, b⟩ := T.hp; He.glo_ok a b (T.sy.fact 12 (f := .glo "search") rfl)
theorem TX.g__law_m_suspects (T : TX K mg) : mg "_law_m_suspects" = some (.ref (He.ga K "_law_m_suspects")) := let ⟨_, a, b⟩ := T.hp; He.glo_ok a b (T.sy.fact 13 (f := .glo "_law_m_suspects") rfl)
theorem TX.g__law_m_after (T : TX K mg) : mg "_law_m_after" = some (.ref (He.ga K "_law_m_after")) := let ⟨_, a, b⟩ := T.hp; He.glo_ok a b (T.sy.fact 14 (f := .glo "_law_m_after") rfl)
theorem TX.g__law_m_left (T : TX K mg) : mg "_law_m_left" = some (.ref (He.ga K "_law_m_left")) := let ⟨_, a, b⟩ := T.hp; He.glo_ok a b (T.sy.fact 15 (f := .glo "_law_m_left") rfl)
theorem TX.g__law_m_is_enough (T : TX K mg) : mg "_law_m_is_enough" = some (.ref (He.ga K "_law_m_is_enough")) := let ⟨_, a, b⟩ := T.hp; He.glo_ok a b (T.sy.fact 16 (f := .glo "_law_m_is_enough") rfl)
theorem TX.g__law_m_fewest (T : TX K mg) : mg "_law_m_fewest" = some (.ref (He.ga K "_law_m_fewest")) := let ⟨_, a, b⟩ := T.hp; He.glo_ok a b (T.sy.fact 17 (f := .glo "_law_m_fewest") rfl)
theorem TX.g__law_m_is_tree (T : TX K mg) : mg "_law_m_is_tree" = some (.ref (He.ga K "_law_m_is_tree")) := let ⟨_, a, b⟩ := T.hp; He.glo_ok a b (T.sy.fact 18 (f := .glo "_law_m_is_tree") rfl)
theorem TX.g__law_m_height (T : TX K mg) : mg "_law_m_height" = some (.ref (He.ga K "_law_m_height")) := let ⟨_, a, b⟩ := T.hp; He.glo_ok a b (T.sy.fact 19 (f := .glo "_law_m_height") rfl)
theorem TX.g__law_start (T : TX K mg) : mg "_law_start" = some (.ref (He.ga K "_law_start")) := let ⟨_, a, b⟩ := T.hp; He.glo_ok a b (T.sy.fact 20 (f := .glo "_law_start") rfl)
theorem TX.g__law_draw (T : TX K mg) : mg "_law_draw" = some (.ref (He.ga K "_law_draw")) := let ⟨_, a, b⟩ := T.hp; He.glo_ok a b (T.sy.fact 21 (f := .glo "_law_draw") rfl)
theorem TX.g__law_pick (T : TX K mg) : mg "_law_pick" = some (.ref (He.ga K "_law_pick")) := let ⟨_, a, b⟩ := T.hp; He.glo_ok a b (T.sy.fact 22 (f := .glo "_law_pick") rfl)
theorem TX.g__law_mixed (T : TX K mg) : mg "_law_mixed" = some (.ref (He.ga K "_law_mixed")) := let ⟨_, a, b⟩ := T.hp; He.glo_ok a b (T.sy.fact 23 (f := .glo "_law_mixed") rfl)
theorem TX.g__law_same (T : TX K mg) : mg "_law_same" = some (.ref (He.ga K "_law_same")) := let ⟨_, a, b⟩ := T.hp; He.glo_ok a b (T.sy.fact 24 (f := .glo "_law_same") rfl)
theorem TX.g__law_known_right (T : TX K mg) : mg "_law_known_right" = some (.ref (He.ga K "_law_known_right")) := let ⟨_, a, b⟩ := T.hp; He.glo_ok a b (T.sy.fact 25 (f := .glo "_law_known_right") rfl)
theorem TX.g__law_is_told (T : TX K mg) : mg "_law_is_told" = some (.ref (He.ga K "_law_is_told")) := let ⟨_, a, b⟩ := T.hp; He.glo_ok a b (T.sy.fact 26 (f := .glo "_law_is_told") rfl)
theorem TX.g_law (T : TX K mg) : mg "law" = some (.ref (He.ga K "law")) := let ⟨_, a, b⟩ := T.hp; He.glo_ok a b (T.sy.fact 27 (f := .glo "law") rfl)
theorem TX.g_Hunt (T : TX K mg) : mg "Hunt" = some (.ref (CH K)) := let ⟨_, a, b⟩ := T.hp; He.glo_ok a b (T.sy.fact 28 (f := .glo "Hunt") rfl)
theorem TX.f_isinstance (T : TX K mg) : mg "isinstance" = none := let ⟨_, a, b⟩ := T.hp; He.free_ok a b (T.sy.fact 29 (f := .free "isinstance") rfl)
theorem TX.f_list (T : TX K mg) : mg "list" = none := let ⟨_, a, b⟩ := T.hp; He.free_ok a b (T.sy.fact 30 (f := .free "list") rfl)
theorem TX.f_tuple (T : TX K mg) : mg "tuple" = none := let ⟨_, a, b⟩ := T.hp; He.free_ok a b (T.sy.fact 31 (f := .free "tuple") rfl)
theorem TX.f_int (T : TX K mg) : mg "int" = none := let ⟨_, a, b⟩ := T.hp; He.free_ok a b (T.sy.fact 32 (f := .free "int") rfl)
theorem TX.f_bool (T : TX K mg) : mg "bool" = none := let ⟨_, a, b⟩ := T.hp; He.free_ok a b (T.sy.fact 33 (f := .free "bool") rfl)
theorem TX.f_len (T : TX K mg) : mg "len" = none := let ⟨_, a, b⟩ := T.hp; He.free_ok a b (T.sy.fact 34 (f := .free "len") rfl)
theorem TX.f_str (T : TX K mg) : mg "str" = none := let ⟨_, a, b⟩ := T.hp; He.free_ok a b (T.sy.fact 35 (f := .free "str") rfl)
theorem TX.f_set (T : TX K mg) : mg "set" = none := let ⟨_, a, b⟩ := T.hp; He.free_ok a b (T.sy.fact 36 (f := .free "set") rfl)
theorem TX.f_enumerate (T : TX K mg) : mg "enumerate" = none := let ⟨_, a, b⟩ := T.hp; He.free_ok a b (T.sy.fact 37 (f := .free "enumerate") rfl)
theorem TX.f_min (T : TX K mg) : mg "min" = none := let ⟨_, a, b⟩ := T.hp; He.free_ok a b (T.sy.fact 38 (f := .free "min") rfl)
theorem TX.f_max (T : TX K mg) : mg "max" = none := let ⟨_, a, b⟩ := T.hp; He.free_ok a b (T.sy.fact 39 (f := .free "max") rfl)
theorem TX.f_range (T : TX K mg) : mg "range" = none := let ⟨_, a, b⟩ := T.hp; He.free_ok a b (T.sy.fact 40 (f := .free "range") rfl)
theorem TX.f_zip (T : TX K mg) : mg "zip" = none := let ⟨_, a, b⟩ := T.hp; He.free_ok a b (T.sy.fact 41 (f := .free "zip") rfl)
theorem TX.f_all (T : TX K mg) : mg "all" = none := let ⟨_, a, b⟩ := T.hp; He.free_ok a b (T.sy.fact 42 (f := .free "all") rfl)
theorem TX.f_any (T : TX K mg) : mg "any" = none := let ⟨_, a, b⟩ := T.hp; He.free_ok a b (T.sy.fact 43 (f := .free "any") rfl)
theorem TX.f_dict (T : TX K mg) : mg "dict" = none := let ⟨_, a, b⟩ := T.hp; He.free_ok a b (T.sy.fact 44 (f := .free "dict") rfl)
theorem TX.SMALL (T : TX K mg) : ∃ t, mg "SMALL" = some (.str "abcdefghijklmnopqrstuvwxyz" t) := let ⟨_, a, b⟩ := T.hp; He.str_ok a b (T.sy.fact 45 (f := .str "SMALL" "abcdefghijklmnopqrstuvwxyz") rfl)
theorem TX.FIGURES (T : TX K mg) : ∃ t, mg "FIGURES" = some (.str "0123456789" t) := let ⟨_, a, b⟩ := T.hp; He.str_ok a b (T.sy.fact 46 (f := .str "FIGURES" "0123456789") rfl)
theorem TX.cl (T : TX K mg) : Cls K (CH K) := He.cls_ok (T.sy.fact 47 (f := .cls "Hunt") rfl)
theorem TX.n_ones (T : TX K mg) : NoAttr K (CH K) "ones" := He.noat_ok (T.sy.fact 48 (f := .noat "Hunt" "ones") rfl)
theorem TX.n_most (T : TX K mg) : NoAttr K (CH K) "most" := He.noat_ok (T.sy.fact 49 (f := .noat "Hunt" "most") rfl)
theorem TX.n_signs (T : TX K mg) : NoAttr K (CH K) "signs" := He.noat_ok (T.sy.fact 50 (f := .noat "Hunt" "signs") rfl)
theorem TX.n_known (T : TX K mg) : NoAttr K (CH K) "known" := He.noat_ok (T.sy.fact 51 (f := .noat "Hunt" "known") rfl)
theorem TX.m_begun (T : TX K mg) : Meth K (CH K) "begun" (He.fAd K ("Hunt", some "begun")) := He.meth_ok (T.sy.fact 52 (f := .meth "Hunt" "begun") rfl)
theorem TX.m_behind_answer (T : TX K mg) : Meth K (CH K) "behind_answer" (He.fAd K ("Hunt", some "behind_answer")) := He.meth_ok (T.sy.fact 53 (f := .meth "Hunt" "behind_answer") rfl)
theorem TX.m_left_ones (T : TX K mg) : Meth K (CH K) "left_ones" (He.fAd K ("Hunt", some "left_ones")) := He.meth_ok (T.sy.fact 54 (f := .meth "Hunt" "left_ones") rfl)
theorem TX.m_is_enough (T : TX K mg) : Meth K (CH K) "is_enough" (He.fAd K ("Hunt", some "is_enough")) := He.meth_ok (T.sy.fact 55 (f := .meth "Hunt" "is_enough") rfl)
theorem TX.m_is_right (T : TX K mg) : Meth K (CH K) "is_right" (He.fAd K ("Hunt", some "is_right")) := He.meth_ok (T.sy.fact 56 (f := .meth "Hunt" "is_right") rfl)
theorem TX.m_unparted (T : TX K mg) : Meth K (CH K) "unparted" (He.fAd K ("Hunt", some "unparted")) := He.meth_ok (T.sy.fact 57 (f := .meth "Hunt" "unparted") rfl)
theorem TX.m_fewest_from (T : TX K mg) : Meth K (CH K) "fewest_from" (He.fAd K ("Hunt", some "fewest_from")) := He.meth_ok (T.sy.fact 58 (f := .meth "Hunt" "fewest_from") rfl)
theorem TX.mkH (T : TX K mg) : Mk K (CH K) (He.fAd K ("Hunt", some "__init__")) := He.mkr_ok (T.sy.fact 59 (f := .mkr "Hunt") rfl)
theorem TX.fd_d_is_list (T : TX K mg) : ∃ fd, FunD K d_is_list.name d_is_list.qual d_is_list.params d_is_list.body d_is_list.scope (d_is_list.dvs K) (d_is_list.kws K) (He.fAd K d_is_list.at_) fd := T.sy.def_ 0 (d := d_is_list) rfl
theorem TX.fd_d_is_integer (T : TX K mg) : ∃ fd, FunD K d_is_integer.name d_is_integer.qual d_is_integer.params d_is_integer.body d_is_integer.scope (d_is_integer.dvs K) (d_is_integer.kws K) (He.fAd K d_is_integer.at_) fd := T.sy.def_ 1 (d := d_is_integer) rfl
theorem TX.fd_d_is_name (T : TX K mg) : ∃ fd, FunD K d_is_name.name d_is_name.qual d_is_name.params d_is_name.body d_is_name.scope (d_is_name.dvs K) (d_is_name.kws K) (He.fAd K d_is_name.at_) fd := T.sy.def_ 2 (d := d_is_name) rfl
theorem TX.fd_d_are_names (T : TX K mg) : ∃ fd, FunD K d_are_names.name d_are_names.qual d_are_names.params d_are_names.body d_are_names.scope (d_are_names.dvs K) (d_are_names.kws K) (He.fAd K d_are_names.at_) fd := T.sy.def_ 3 (d := d_are_names) rfl
theorem TX.fd_d_checked_suspects (T : TX K mg) : ∃ fd, FunD K d_checked_suspects.name d_checked_suspects.qual d_checked_suspects.params d_checked_suspects.body d_checked_suspects.scope (d_checked_suspects.dvs K) (d_checked_suspects.kws K) (He.fAd K d_checked_suspects.at_) fd := T.sy.def_ 4 (d := d_checked_suspects) rfl
theorem TX.fd_d_checked_askings (T : TX K mg) : ∃ fd, FunD K d_checked_askings.name d_checked_askings.qual d_checked_askings.params d_checked_askings.body d_checked_askings.scope (d_checked_askings.dvs K) (d_checked_askings.kws K) (He.fAd K d_checked_askings.at_) fd := T.sy.def_ 5 (d := d_checked_askings) rfl
theorem TX.fd_d_checked_lies (T : TX K mg) : ∃ fd, FunD K d_checked_lies.name d_checked_lies.qual d_checked_lies.params d_checked_lies.body d_checked_lies.scope (d_checked_lies.dvs K) (d_checked_lies.kws K) (He.fAd K d_checked_lies.at_) fd := T.sy.def_ 6 (d := d_checked_lies) rfl
theorem TX.fd_d_never_parted (T : TX K mg) : ∃ fd, FunD K d_never_parted.name d_never_parted.qual d_never_parted.params d_never_parted.body d_never_parted.scope (d_never_parted.dvs K) (d_never_parted.kws K) (He.fAd K d_never_parted.at_) fd := T.sy.def_ 7 (d := d_never_parted) rfl
theorem TX.fd_d_fewest_of (T : TX K mg) : ∃ fd, FunD K d_fewest_of.name d_fewest_of.qual d_fewest_of.params d_fewest_of.body d_fewest_of.scope (d_fewest_of.dvs K) (d_fewest_of.kws K) (He.fAd K d_fewest_of.at_) fd := T.sy.def_ 8 (d := d_fewest_of) rfl
theorem TX.fd_d_fewest_askings (T : TX K mg) : ∃ fd, FunD K d_fewest_askings.name d_fewest_askings.qual d_fewest_askings.params d_fewest_askings.body d_fewest_askings.scope (d_fewest_askings.dvs K) (d_fewest_askings.kws K) (He.fAd K d_fewest_askings.at_) fd := T.sy.def_ 9 (d := d_fewest_askings) rfl
theorem TX.fd_d_first_right (T : TX K mg) : ∃ fd, FunD K d_first_right.name d_first_right.qual d_first_right.params d_first_right.body d_first_right.scope (d_first_right.dvs K) (d_first_right.kws K) (He.fAd K d_first_right.at_) fd := T.sy.def_ 10 (d := d_first_right) rfl
theorem TX.fd_d_tree_from (T : TX K mg) : ∃ fd, FunD K d_tree_from.name d_tree_from.qual d_tree_from.params d_tree_from.body d_tree_from.scope (d_tree_from.dvs K) (d_tree_from.kws K) (He.fAd K d_tree_from.at_) fd := T.sy.def_ 11 (d := d_tree_from) rfl
theorem TX.fd_d_search (T : TX K mg) : ∃ fd, FunD K d_search.name d_search.qual d_search.params d_search.body d_search.scope (d_search.dvs K) (d_search.kws K) (He.fAd K d_search.at_) fd := T.sy.def_ 12 (d := d_search) rfl
theorem TX.fd_d__law_m_suspects (T : TX K mg) : ∃ fd, FunD K d__law_m_suspects.name d__law_m_suspects.qual d__law_m_suspects.params d__law_m_suspects.body d__law_m_suspects.scope (d__law_m_suspects.dvs K) (d__law_m_suspects.kws K) (He.fAd K d__law_m_suspects.at_) fd := T.sy.def_ 13 (d := d__law_m_suspects) rfl
theorem TX.fd_d__law_m_after (T : TX K mg) : ∃ fd, FunD K d__law_m_after.name d__law_m_after.qual d__law_m_after.params d__law_m_after.body d__law_m_after.scope (d__law_m_after.dvs K) (d__law_m_after.kws K) (He.fAd K d__law_m_after.at_) fd := T.sy.def_ 14 (d := d__law_m_after) rfl
theorem TX.fd_d__law_m_left (T : TX K mg) : ∃ fd, FunD K d__law_m_left.name d__law_m_left.qual d__law_m_left.params d__law_m_left.body d__law_m_left.scope (d__law_m_left.dvs K) (d__law_m_left.kws K) (He.fAd K d__law_m_left.at_) fd := T.sy.def_ 15 (d := d__law_m_left) rfl
theorem TX.fd_d__law_m_is_enough (T : TX K mg) : ∃ fd, FunD K d__law_m_is_enough.name d__law_m_is_enough.qual d__law_m_is_enough.params d__law_m_is_enough.body d__law_m_is_enough.scope (d__law_m_is_enough.dvs K) (d__law_m_is_enough.kws K) (He.fAd K d__law_m_is_enough.at_) fd := T.sy.def_ 16 (d := d__law_m_is_enough) rfl
theorem TX.fd_d__law_m_fewest (T : TX K mg) : ∃ fd, FunD K d__law_m_fewest.name d__law_m_fewest.qual d__law_m_fewest.params d__law_m_fewest.body d__law_m_fewest.scope (d__law_m_fewest.dvs K) (d__law_m_fewest.kws K) (He.fAd K d__law_m_fewest.at_) fd := T.sy.def_ 17 (d := d__law_m_fewest) rfl
theorem TX.fd_d__law_m_is_tree (T : TX K mg) : ∃ fd, FunD K d__law_m_is_tree.name d__law_m_is_tree.qual d__law_m_is_tree.params d__law_m_is_tree.body d__law_m_is_tree.scope (d__law_m_is_tree.dvs K) (d__law_m_is_tree.kws K) (He.fAd K d__law_m_is_tree.at_) fd := T.sy.def_ 18 (d := d__law_m_is_tree) rfl
theorem TX.fd_d__law_m_height (T : TX K mg) : ∃ fd, FunD K d__law_m_height.name d__law_m_height.qual d__law_m_height.params d__law_m_height.body d__law_m_height.scope (d__law_m_height.dvs K) (d__law_m_height.kws K) (He.fAd K d__law_m_height.at_) fd := T.sy.def_ 19 (d := d__law_m_height) rfl
theorem TX.fd_d__law_start (T : TX K mg) : ∃ fd, FunD K d__law_start.name d__law_start.qual d__law_start.params d__law_start.body d__law_start.scope (d__law_start.dvs K) (d__law_start.kws K) (He.fAd K d__law_start.at_) fd := T.sy.def_ 20 (d := d__law_start) rfl
theorem TX.fd_d__law_draw (T : TX K mg) : ∃ fd, FunD K d__law_draw.name d__law_draw.qual d__law_draw.params d__law_draw.body d__law_draw.scope (d__law_draw.dvs K) (d__law_draw.kws K) (He.fAd K d__law_draw.at_) fd := T.sy.def_ 21 (d := d__law_draw) rfl
theorem TX.fd_d__law_pick (T : TX K mg) : ∃ fd, FunD K d__law_pick.name d__law_pick.qual d__law_pick.params d__law_pick.body d__law_pick.scope (d__law_pick.dvs K) (d__law_pick.kws K) (He.fAd K d__law_pick.at_) fd := T.sy.def_ 22 (d := d__law_pick) rfl
theorem TX.fd_d__law_mixed (T : TX K mg) : ∃ fd, FunD K d__law_mixed.name d__law_mixed.qual d__law_mixed.params d__law_mixed.body d__law_mixed.scope (d__law_mixed.dvs K) (d__law_mixed.kws K) (He.fAd K d__law_mixed.at_) fd := T.sy.def_ 23 (d := d__law_mixed) rfl
theorem TX.fd_d__law_same (T : TX K mg) : ∃ fd, FunD K d__law_same.name d__law_same.qual d__law_same.params d__law_same.body d__law_same.scope (d__law_same.dvs K) (d__law_same.kws K) (He.fAd K d__law_same.at_) fd := T.sy.def_ 24 (d := d__law_same) rfl
theorem TX.fd_d__law_known_right (T : TX K mg) : ∃ fd, FunD K d__law_known_right.name d__law_known_right.qual d__law_known_right.params d__law_known_right.body d__law_known_right.scope (d__law_known_right.dvs K) (d__law_known_right.kws K) (He.fAd K d__law_known_right.at_) fd := T.sy.def_ 25 (d := d__law_known_right) rfl
theorem TX.fd_d__law_is_told (T : TX K mg) : ∃ fd, FunD K d__law_is_told.name d__law_is_told.qual d__law_is_told.params d__law_is_told.body d__law_is_told.scope (d__law_is_told.dvs K) (d__law_is_told.kws K) (He.fAd K d__law_is_told.at_) fd := T.sy.def_ 26 (d := d__law_is_told) rfl
theorem TX.fd_d_law (T : TX K mg) : ∃ fd, FunD K d_law.name d_law.qual d_law.params d_law.body d_law.scope (d_law.dvs K) (d_law.kws K) (He.fAd K d_law.at_) fd := T.sy.def_ 27 (d := d_law) rfl
theorem TX.fd_dm___init__ (T : TX K mg) : ∃ fd, FunD K dm___init__.name dm___init__.qual dm___init__.params dm___init__.body dm___init__.scope (dm___init__.dvs K) (dm___init__.kws K) (He.fAd K dm___init__.at_) fd := T.sy.def_ 28 (d := dm___init__) rfl
theorem TX.fd_dm_begun (T : TX K mg) : ∃ fd, FunD K dm_begun.name dm_begun.qual dm_begun.params dm_begun.body dm_begun.scope (dm_begun.dvs K) (dm_begun.kws K) (He.fAd K dm_begun.at_) fd := T.sy.def_ 29 (d := dm_begun) rfl
theorem TX.fd_dm_behind_answer (T : TX K mg) : ∃ fd, FunD K dm_behind_answer.name dm_behind_answer.qual dm_behind_answer.params dm_behind_answer.body dm_behind_answer.scope (dm_behind_answer.dvs K) (dm_behind_answer.kws K) (He.fAd K dm_behind_answer.at_) fd := T.sy.def_ 30 (d := dm_behind_answer) rfl
theorem TX.fd_dm_left_ones (T : TX K mg) : ∃ fd, FunD K dm_left_ones.name dm_left_ones.qual dm_left_ones.params dm_left_ones.body dm_left_ones.scope (dm_left_ones.dvs K) (dm_left_ones.kws K) (He.fAd K dm_left_ones.at_) fd := T.sy.def_ 31 (d := dm_left_ones) rfl
theorem TX.fd_dm_is_enough (T : TX K mg) : ∃ fd, FunD K dm_is_enough.name dm_is_enough.qual dm_is_enough.params dm_is_enough.body dm_is_enough.scope (dm_is_enough.dvs K) (dm_is_enough.kws K) (He.fAd K dm_is_enough.at_) fd := T.sy.def_ 32 (d := dm_is_enough) rfl
theorem TX.fd_dm_is_right (T : TX K mg) : ∃ fd, FunD K dm_is_right.name dm_is_right.qual dm_is_right.params dm_is_right.body dm_is_right.scope (dm_is_right.dvs K) (dm_is_right.kws K) (He.fAd K dm_is_right.at_) fd := T.sy.def_ 33 (d := dm_is_right) rfl
theorem TX.fd_dm_unparted (T : TX K mg) : ∃ fd, FunD K dm_unparted.name dm_unparted.qual dm_unparted.params dm_unparted.body dm_unparted.scope (dm_unparted.dvs K) (dm_unparted.kws K) (He.fAd K dm_unparted.at_) fd := T.sy.def_ 34 (d := dm_unparted) rfl
theorem TX.fd_dm_fewest_from (T : TX K mg) : ∃ fd, FunD K dm_fewest_from.name dm_fewest_from.qual dm_fewest_from.params dm_fewest_from.body dm_fewest_from.scope (dm_fewest_from.dvs K) (dm_fewest_from.kws K) (He.fAd K dm_fewest_from.at_) fd := T.sy.def_ 35 (d := dm_fewest_from) rfl
end
structure Ok (P : Program) (w : World) (K : PySem.W.Frag) (mg : Str → Option Value) (base : Heap) (k : Nat) (p : Str × Option Str) (ps : List Str) (dvs : List V) (sp : Sp) : Prop where
  ex : ∃ fd ds, FnOk P w K mg base CX0 k (He.fAd K p) fd ps sp ∧ Vals dvs ds ∧ Binds K fd ps ds
  kp : PySem.W.keepIn K (.ref (He.fAd K p)) = true
section
variable {P : Program} {w : World} {K : PySem.W.Frag} {mg : Str → Option Value} {base : Heap}
theorem Ok.mono {j k : Nat} {p : Str × Option Str} {ps : List Str} {dvs : List V} {sp : Sp} (O : Ok P w K mg base j p ps dvs sp) (h : j ≤ k) : Ok P w K mg base k p ps dvs sp := by
  obtain ⟨⟨fd, ds, a, b, c⟩, kp⟩ := O
  exact ⟨⟨fd, ds, a.mono h, b, c⟩, kp⟩
theorem Ok.imp {k : Nat} {p : Str × Option Str} {ps : List Str} {dvs : List V} {sp sp' : Sp} (O : Ok P w K mg base k p ps dvs sp) (h : ∀ vs H Q E, sp' vs H Q E → sp vs H Q E) : Ok P w K mg base k p ps dvs sp' := by
  obtain ⟨⟨fd, ds, a, b, c⟩, kp⟩ := O
  exact ⟨⟨fd, ds, a.imp h, b, c⟩, kp⟩
theorem ok_def {d : He.DefD} (F : ∃ fd, FunD K d.name d.qual d.params d.body d.scope (d.dvs K) (d.kws K) (He.fAd K d.at_) fd) (h1 : d.dfl = []) (h2 : d.kwd = []) {N ps : List Str} {k : Nat} {sp : Sp} (S : FnScope N ps d.scope)
    (hb : ∀ (kV doc pm : Value) (an : Option Addr) (cdv ct : Value) (us : List Value), us.length = ps.length → bindArgs (PySem.W.fnOf d.name d.qual d.params d.body d.scope .none kV doc pm an cdv ct) ⟨us, []⟩ = pure (ps.zip us))
    (len : ∀ vs H Q E, sp vs H Q E → vs.length = ps.length)
    (body : ∀ (cdv : Value) (A : Around) (outer : List Env) (s : Shared) (H : Hp) (vs : List V) (Q : VK) (E : XK), Room k (A.deeper (envOfC d.qual d.scope s.heap.objs.size (He.fAd K d.at_) cdv)) → sp vs H Q E →
      ∃ t, PSs (cxOf CX0 P w K mg base N d.qual d.scope (He.fAd K d.at_) cdv A outer s H E).nox d.body t ∧ t { nx := fun _ H' => Q .non H', rt := Q } (start N vs) H) : Ok P w K mg base (k + 1) d.at_ ps [] sp := by
  obtain ⟨fd, F⟩ := F
  have e1 : d.dvs K = [] := by unfold He.DefD.dvs; rw [h1]; rfl
  have e2 : d.kws K = [] := by unfold He.DefD.kws; rw [h2]; rfl
  rw [e1, e2] at F
  refine ⟨⟨fd, [], ?_, .nil, F.bindsN hb⟩, F.kp⟩
  refine F.ok S len fun cdv A outer s H vs Q E hr h => ?_
  obtain ⟨t, a, b⟩ := body cdv A outer s H vs Q E hr h
  exact ⟨t, a.nox, b⟩
end
section
variable {X : Cx} {k j : Nat} {x m : Str} {ps : List Str} {dvs : List V} {sp : Sp} {p pos apos : Pos} {e o : Expr} {es : List Expr} {t : TA} {ta : TE}
theorem pe_f (O : Ok X.prog X.w X.K X.mg X.base k (x, none) ps dvs sp) (hr : Room j X.A) (hk : k ≤ j) (hm : X.mg x = some (.ref (He.ga X.K x))) (hg : Gl X x) (ha : PA X (e :: es) t)
    (hdb : (x == ("__debug__" : Str)) = false := by decide) (he : starEach (e :: es) X.env = (false, eval e X.env) :: starEach es X.env := by rfl) (hpl : (backTo pos (starEach es X.env)).any (·.1) = false := by rfl) :
    PE X (.Call (.Name x p) (e :: es) [] pos) (tCall sp dvs E0 t) := by
  obtain ⟨⟨fd, ds, a, b, c⟩, kp⟩ := O
  exact pe_call (a.mono hk) hr hg hm kp c b pass0 ha hdb he hpl
theorem pe_m {pl : Sem Bool} (O : Ok X.prog X.w X.K X.mg X.base k ("Hunt", some m) ps dvs sp) (hr : Room j X.A) (hk : k ≤ j) (c : Cls X.K (CH X.K)) (hm : Meth X.K (CH X.K) m (He.fAd X.K ("Hunt", some m))) (ho : PE X o ta) (ha : PA X (e :: es) t)
    (hst : starEach (e :: es) X.env = (false, eval e X.env) :: starEach es X.env := by rfl) (hpl : (backTo pos (starEach es X.env)).any (·.1) = false := by rfl)
    (ht : eval (.Call (.Attribute o m apos) (e :: es) [] pos) X.env = (do
      let ov ← eval o X.env
      standAt apos.atName
      let (f, first) ← holding [ov] (getMethod ov m pl)
      callWith pos f first (backTo pos (starEach (e :: es) X.env)) (backToKw pos (keywordEach [] X.env))) := by rfl) :
    PE X (.Call (.Attribute o m apos) (e :: es) [] pos) (tMeth (CH X.K) m sp dvs E0 ta t) := by
  obtain ⟨⟨fd, ds, a, b, d⟩, kp⟩ := O
  exact pe_meth ho c hm (a.mono hk) hr d b pass0 ha hst hpl ht
theorem pe_m0 {pl : Sem Bool} (O : Ok X.prog X.w X.K X.mg X.base k ("Hunt", some m) ps dvs sp) (hr : Room j X.A) (hk : k ≤ j) (c : Cls X.K (CH X.K)) (hm : Meth X.K (CH X.K) m (He.fAd X.K ("Hunt", some m))) (ho : PE X o ta)
    (ht : eval (.Call (.Attribute o m apos) [] [] pos) X.env = (do
      let ov ← eval o X.env
      standAt apos.atName
      let (f, first) ← holding [ov] (getMethod ov m pl)
      callWith pos f first (backTo pos (starEach [] X.env)) (backToKw pos (keywordEach [] X.env))) := by rfl) :
    PE X (.Call (.Attribute o m apos) [] [] pos) (tMeth (CH X.K) m sp dvs E0 ta tNil) := by
  obtain ⟨⟨fd, ds, a, b, d⟩, kp⟩ := O
  exact pe_meth0 ho c hm (a.mono hk) hr d b pass0 ht
end
end My

set_option Elab.async false
set_option linter.all false
set_option maxRecDepth 100000
set_option maxHeartbeats 0
namespace My
open PySem PySem.Spec PyProof.Rows L2
def loose0 : List Str := ["_wall", "PatchError", "BadAskings", "BadLies", "BadSuspects", "SMALL", "FIGURES", "is_list", "is_integer", "is_name", "are_names", "checked_suspects", "checked_askings", "checked_lies", "Hunt", "never_parted", "fewest_of", "fewest_askings", "first_right", "tree_from", "search"]
def loose1 : List Str := ["_law_m_suspects", "_law_m_after", "_law_m_left", "_law_m_is_enough", "_law_m_fewest", "_law_m_is_tree", "_law_m_height", "_law_start", "_law_draw", "_law_pick", "_law_mixed", "_law_same", "_law_known_right", "_law_is_told", "__name__"]
def loose2 : List Str := loose0 ++ loose1
abbrev RR : PySem.W.OpenRow := PySem.W.OpenLaw.row PySem.Challenge.rw_patchlots_k78_whole_searches
abbrev hk : PySem.W.Hook := He.hookD 5 fa fn
def ob (s : PySem.W.SharedT) : He.AlD := He.obsDG 5 fa fn (HandSHeadRun.getT s)
theorem ob_eq (s : PySem.W.SharedT) : ob s = hk.obs s.abs := He.obsDG_eq (HandSHeadRun.getT_eq s)
theorem run (w : World) : HandSHeadRun.RunEq RR (PySem.W.view RR.prog [39]) hk ob 3000 loose2 w := by
  intro os
  kernel_rfl
end My

set_option Elab.async false
set_option linter.all false
set_option maxRecDepth 100000
set_option maxHeartbeats 4000000
namespace My
open PySem PySem.Spec PyProof.Rows L2

theorem same_new {H : Hp} {p : Addr} {o : HO} (hp : H p = none) : Same H (upd H p o) := fun b u e => by rw [upd_ne (ne_of_none e hp)]; exact e
theorem same_put {H H' : Hp} {p : Addr} {o : HO} (h : Same H H') (hp : H p = none) : Same H (upd H' p o) := fun b u e => by rw [upd_ne (ne_of_none e hp)]; exact h b u e
def SeqH (H : Hp) : Bool → Addr → List V → Prop
  | true, a, xs => H a = some (.lst xs)
  | false, a, xs => H a = some (.tup xs)
theorem SeqH.sqb {K : PySem.W.Frag} {H : Hp} {p : Bool} {a : Addr} {xs : List V} (h : SeqH H p a xs) : SqB K H p a xs := by
  cases p with
  | true => exact .of h
  | false => exact .of h
theorem SeqH.keep {H H' : Hp} {p : Bool} {a : Addr} {xs : List V} (h : SeqH H p a xs) (k : Same H H') : SeqH H' p a xs := by
  cases p with
  | true => exact k _ _ h
  | false => exact k _ _ h
theorem SeqH.or {K : PySem.W.Frag} {H : Hp} {p : Bool} {a : Addr} {xs : List V} (h : SeqH H p a xs) : SqL K H a xs ∨ SqT K H a xs := by
  cases p with
  | true => exact .inl (.of h)
  | false => exact .inr (.of h)
def tyB : Bool → String
  | true => "list"
  | false => "tuple"
theorem SeqH.ty {K : PySem.W.Frag} {H : Hp} {p : Bool} {a : Addr} {xs : List V} (h : SeqH H p a xs) : TyX K H (.ref a) (.type (tyB p)) := by
  cases p with
  | true => exact .base (.lst h)
  | false => exact .base (.tup h)
theorem SeqH.len {K : PySem.W.Frag} {H : Hp} {p : Bool} {a : Addr} {xs : List V} (h : SeqH H p a xs) : LenV K (.ref a) H xs.length := by
  cases p with
  | true => exact .inl ⟨xs, .of h, rfl⟩
  | false => exact .inr ⟨xs, .of h, rfl⟩
theorem SeqH.ne {H : Hp} {p : Bool} {a : Addr} {xs : List V} (h : SeqH H p a xs) {b : Addr} (hb : H b = none) : a ≠ b := by
  cases p with
  | true => exact ne_of_none h hb
  | false => exact ne_of_none h hb
theorem SqB.same {K : PySem.W.Frag} {H H' : Hp} {p : Bool} {a : Addr} {xs : List V} (h : SqB K H p a xs) (k : Same H H') : SqB K H' p a xs := h.keep fun o e => k a o e
theorem kit_lt {K : PySem.W.Frag} (p : Bool) : PySem.W.kitAny K (.type (tyB p)) [.type "list", .type "tuple"] = some true := by
  cases p with
  | true => exact kitAny_cons (b := true) (kit_ty (by decide +kernel)) (fun h => nomatch h) fun _ => rfl
  | false => exact kitAny_cons (b := false) (kit_ty (by decide +kernel)) (fun _ => kitAny_cons (b := true) (kit_ty (by decide +kernel)) (fun h => nomatch h) fun _ => rfl) fun h => nomatch h

def ItaB (K : PySem.W.Frag) : Bool → Addr → It
  | true, a => Itl K a
  | false, a => Itt K a
theorem walk_sqB {K : PySem.W.Frag} {p : Bool} {a : Addr} {xs : List V} : Walk (ItaB K p a) xs.length (fun H => SqB K H p a xs) (YAt xs) := by
  cases p with
  | true => exact walk_list
  | false => exact walk_tup
def iSqB (K : PySem.W.Frag) (tl : TE) : TI := fun σ H R => tl σ H fun x H1 => ∃ p a xs, x = .ref a ∧ SqB K H1 p a xs ∧ R (ItaB K p a) H1
theorem pi_sqB {X : Cx} {tg l : Expr} {tl : TE} (hl : PE X l tl) : PI X tg l (iSqB X.K tl) := by
  refine ⟨fun pins s σ H R I h => ?_⟩
  refine thn (hl.run pins s σ H _ I h) fun v s1 ⟨x, H1, I1, r1, q1⟩ => ?_
  obtain ⟨p, a, xs, rfl, hq, q⟩ := q1
  cases r1
  have fr : ∀ c ∈ [s1.heap.objs.size], FpOk X pins H1 c := fun c hc => by
    rw [List.mem_singleton.mp hc]
    exact I1.fpOk (Nat.le_refl _) (I1.hok.fresh (Nat.le_refl _))
  cases p with
  | true =>
    obtain ⟨its, rv, pl, _⟩ := I1.list hq
    refine wpAny_pyIter_list pl.isList ⟨_, [s1.heap.objs.size], _, _, H1, rfl, I1.kept (t' := s1.toks) fun b o e => Heap.get?_push_of_some _ e, turn_list a _, ⟨_, Heap.get?_push_size _ rfl, rfl, rfl⟩, fr, q⟩
  | false =>
    obtain ⟨its, rv, pl, _⟩ := I1.tuple hq
    refine wpAny_pyIter_tuple (show s1.heap.IsTuple a its.toArray from pl) ⟨_, [s1.heap.objs.size], _, _, H1, rfl, I1.kept (t' := s1.toks) fun b o e => Heap.get?_push_of_some _ e, turn_tuple a _, ⟨_, Heap.get?_push_size _ rfl, rfl, rfl⟩, fr, q⟩

theorem lc_fm {J : It} {n : Nat} {G : Hp → Prop} {Y : Nat → Hp → V → Hp → Prop} (w : Walk J n G Y) (f : Nat → Option V) {g : TG} {tt : TT} {te : TE} {vs : List Nat} {σ : L2.St} {H1 : Hp} {D : Addr} {Qd : Hp → Prop} (hn : n ≤ 100000) (hD : H1 D = none)
    (hG : ∀ H, Same H1 H → G H)
    (hs : ∀ i x H H', i < n → Same H1 H → Y i H x H' → ∀ (R : V → Hp → Prop) (N : Hp → Prop), (∀ y H4, f i = some y → Same H H4 → R y H4) → (∀ H4, f i = none → Same H H4 → N H4) →
      g x (wipe σ vs) H' fun σ2 H2 => wipe σ2 vs = wipe σ vs ∧ tt σ2 H2 fun b H3 => if b = true then te σ2 H3 R else N H3)
    (hd : ∀ H, Same H1 H → H D = some (.lst ((List.range n).filterMap f)) → Qd H) :
    ∃ W : Nat → Nat → Hp → Prop, (∃ m, W 0 m (upd H1 D (.lst []))) ∧ ∀ i m H, W i m H →
      (J.stop i H ∧ Qd H) ∨ (J.go i H ∧ ∃ Nx : Hp → Prop, (∀ H', Nx H' → ∃ m', m' < m ∧ W (i + 1) m' H') ∧ ∀ x H', J.yld i H x H' → g x (wipe σ vs) H' fun σ2 H2 => wipe σ2 vs = wipe σ vs ∧ tt σ2 H2 fun b H3 =>
        if b = true then te σ2 H3 fun y H4 => ∃ acc, H4 D = some (.lst acc) ∧ acc.length < sizeLine ∧ Nx (upd H4 D (.lst (acc ++ [y]))) else Nx H3) := by
  have hz : sizeLine = 16777216 := sizeLine_eq
  refine lc_it w (fun i H => Same H1 H ∧ H D = some (.lst ((List.range i).filterMap f))) ⟨same_new hD, upd_same⟩ (fun i H _ p => hG H p.1) (fun i x H H' hi p y => ?_) fun H p => hd H p.1 p.2
  obtain ⟨s1, hDl⟩ := p
  have lf : ((List.range i).filterMap f).length < sizeLine := by
    have := List.length_filterMap_le f (List.range i)
    rw [List.length_range] at this
    omega
  have e : (List.range (i + 1)).filterMap f = (List.range i).filterMap f ++ (match f i with | some y => [y] | none => []) := by
    rw [List.range_succ, List.filterMap_append]
    cases q : f i <;> simp [q]
  refine hs i x H H' hi s1 y _ _ (fun y H4 q s4 => ⟨_, s4 _ _ hDl, lf, same_put (s1.trans s4) hD, ?_⟩) fun H4 q s4 => ⟨s1.trans s4, ?_⟩
  · rw [upd_same, e, q]
  · rw [s4 _ _ hDl, e, q, List.append_nil]
theorem fm_map {α β : Type} (F : α → β) : ∀ xs : List α, (List.range xs.length).filterMap (fun i => xs[i]?.map F) = xs.map F
  | [] => rfl
  | x :: r => by
    have ih := fm_map F r
    rw [List.length_cons, List.range_succ_eq_map, List.filterMap_cons, List.filterMap_map]
    show F x :: (List.range r.length).filterMap (fun i => (x :: r)[i + 1]?.map F) = F x :: r.map F
    simp only [List.getElem?_cons_succ]
    rw [ih]
theorem fm_fm {α β : Type} (F : α → Option β) : ∀ xs : List α, (List.range xs.length).filterMap (fun i => xs[i]?.bind F) = xs.filterMap F
  | [] => rfl
  | x :: r => by
    have ih := fm_fm F r
    rw [List.length_cons, List.range_succ_eq_map, List.filterMap_cons, List.filterMap_map]
    have e : (List.range r.length).filterMap ((fun i => (x :: r)[i]?.bind F) ∘ Nat.succ) = r.filterMap F := by
      rw [← ih]
      refine congrArg (fun f => (List.range r.length).filterMap f) (funext fun i => ?_)
      show (x :: r)[i + 1]?.bind F = r[i]?.bind F
      rw [List.getElem?_cons_succ]
    rw [e, List.filterMap_cons]
    rfl
end My

set_option Elab.async false
set_option linter.all false
set_option maxRecDepth 100000
set_option maxHeartbeats 4000000
namespace My
open PySem PySem.Spec PyProof.Rows L2
def small0 : Str := "abcdefghijklmnopqrstuvwxyz"
def figs0 : Str := "0123456789"
def inSm (c : Nat) : Bool := decide (c ∈ small0.cps.toList)
def inFg (c : Nat) : Bool := decide (c ∈ figs0.cps.toList)
def goodN (z : Str) : Bool := decide (1 ≤ z.length) && decide (z.length ≤ 12) && (match z.cps.toList[0]? with | some c => inSm c | none => false) && z.cps.toList.all fun c => inSm c || inFg c
theorem str_len (z : Str) : z.length = z.cps.toList.length := by
  show z.cps.size = _
  simp
def spIsList : Sp := fun vs H Q _ => ∃ p a xs, vs = [.ref a] ∧ SeqH H p a xs ∧ ∀ H', Same H H' → Q (.bl true) H'
def spIsInt : Sp := fun vs H Q _ => ∃ i, vs = [.int i] ∧ ∀ H', Same H H' → Q (.bl true) H'
def spIsName : Sp := fun vs H Q _ => ∃ z, vs = [.str z] ∧ goodN z = true ∧ ∀ H', Same H H' → Q (.bl true) H'
def spAreNames : Sp := fun vs H Q _ => ∃ p a, ∃ zs : List Str, vs = [.ref a] ∧ SeqH H p a (zs.map V.str) ∧ zs.all goodN = true ∧ zs.Nodup ∧ zs.length ≤ 100 ∧ ∀ H', Same H H' → Q (.bl true) H'
section
variable {P : Program} {w : World} {K : PySem.W.Frag} {mg : Str → Option Value} {base : Heap}
theorem sc_is_list : FnScope ["thing"] ["thing"] (defScope s_is_list) := ⟨rfl, rfl, rfl, by decide +kernel, rfl, by decide +kernel, by decide +kernel⟩
theorem ok_is_list (T : TX K mg) : Ok P w K mg base 1 ("is_list", none) ["thing"] [] spIsList := by
  refine ok_def (d := d_is_list) T.fd_d_is_list rfl rfl sc_is_list (fun _ _ _ _ _ _ us hl => match us, hl with | [_], _ => rfl) (fun vs H Q E h => ?_) fun cdv A outer s H vs Q E hr h => ?_
  · obtain ⟨p, a, xs, rfl, _⟩ := h
    rfl
  · obtain ⟨p, a, xs, rfl, hs, k⟩ := h
    refine ⟨_, pss_one (ps_ret (pe_callB call_isiT (by rfl) T.f_isinstance (by decide +kernel) (pa_cons (pv 0) (pa_cons (pe_tup (pa_cons (pe_bltn (v := .ty "list") (by rfl) T.f_list (by decide +kernel) rfl) (pa_cons (pe_bltn (v := .ty "tuple") (by rfl) T.f_tuple (by decide +kernel) rfl) pa_nil))) pa_nil)))), ?_⟩
    refine ⟨_, rfl, by show 2 ≤ sizeLine; decide, fun q hq => ⟨.ref a, q, _, _, _, true, rfl, upd_same, .cons (.ty "list") (.cons (.ty "tuple") .nil), (hs.keep (same_new hq)).ty, kit_lt p, k _ (same_new hq)⟩⟩
theorem sc_is_integer : FnScope ["thing"] ["thing"] (defScope s_is_integer) := ⟨rfl, rfl, rfl, by decide +kernel, rfl, by decide +kernel, by decide +kernel⟩
theorem ok_is_integer (T : TX K mg) : Ok P w K mg base 1 ("is_integer", none) ["thing"] [] spIsInt := by
  refine ok_def (d := d_is_integer) T.fd_d_is_integer rfl rfl sc_is_integer (fun _ _ _ _ _ _ us hl => match us, hl with | [_], _ => rfl) (fun vs H Q E h => ?_) fun cdv A outer s H vs Q E hr h => ?_
  · obtain ⟨i, rfl, _⟩ := h
    rfl
  · obtain ⟨i, rfl, k⟩ := h
    refine ⟨_, pss_one (ps_ret (pe_and (pe_callB call_isi (by rfl) T.f_isinstance (by decide +kernel) (pa_cons (pv 0) (pa_cons (pe_bltn (v := .ty "int") (by rfl) T.f_int (by decide +kernel) rfl) pa_nil)))
      (pe_one (pe_not (pe_callB call_isi (by rfl) T.f_isinstance (by decide +kernel) (pa_cons (pv 0) (pa_cons (pe_bltn (v := .ty "bool") (by rfl) T.f_bool (by decide +kernel) rfl) pa_nil))))))), ?_⟩
    refine ⟨_, rfl, .int i, _, _, _, true, rfl, .ty "int", .base (.int i), kit_ty (by decide +kernel), _, rfl, iteT ?_⟩
    refine ⟨_, rfl, .int i, _, _, _, false, rfl, .ty "bool", .base (.int i), kit_ty (by decide +kernel), _, rfl, ?_⟩
    exact k H (Same.refl H)
theorem sc_is_name : FnScope ["thing", "sign"] ["thing"] (defScope s_is_name) := ⟨rfl, rfl, rfl, by decide +kernel, rfl, by decide +kernel, by decide +kernel⟩
theorem ok_is_name (T : TX K mg) : Ok P w K mg base 1 ("is_name", none) ["thing"] [] spIsName := by
  refine ok_def (d := d_is_name) T.fd_d_is_name rfl rfl sc_is_name (fun _ _ _ _ _ _ us hl => match us, hl with | [_], _ => rfl) (fun vs H Q E h => ?_) fun cdv A outer s H vs Q E hr h => ?_
  · obtain ⟨i, rfl, _⟩ := h
    rfl
  · obtain ⟨z, rfl, hz, k⟩ := h
    obtain ⟨ts, gS⟩ := T.SMALL
    obtain ⟨tf, gF⟩ := T.FIGURES
    unfold goodN at hz
    simp only [Bool.and_eq_true, decide_eq_true_eq] at hz
    obtain ⟨⟨⟨z1, z2⟩, z3⟩, z4⟩ := hz
    have hl : sizeLine = 16777216 := sizeLine_eq
    have hzn : z.cps.size ≤ 100000 := Nat.le_trans z2 (by decide)
    obtain ⟨c0, e0, i0⟩ : ∃ c0, z.cps.toList[0]? = some c0 ∧ inSm c0 = true := by
      cases e : z.cps.toList[0]? with
      | none => rw [e] at z3; cases z3
      | some c => rw [e] at z3; exact ⟨c, rfl, z3⟩
    refine ⟨_, pss_cons (ps_if (PW.pt (pw_or (pt_not (pt_val (pe_callB call_isi (by rfl) T.f_isinstance (by decide +kernel) (pa_cons (pv 0) (pa_cons (pe_bltn (v := .ty "str") (by rfl) T.f_str (by decide +kernel) rfl) pa_nil)))))
        (pw_or (pt_not (pt_chain op_le op_le pe_int (pe_callB call_len (by rfl) T.f_len PySem.boot_len (pa_cons (pv 0) pa_nil)) pe_int))
        (pw_or1 (pt_cmpR op_notIn_sign (pe_ix ix_str (pv 0) pe_int (fun _ _ => rfl)) (pe_glob (v := .str small0) (by rfl) gS ⟨_, rfl⟩) rfl))))) (pss_one (ps_ret pe_bl)) pss_nil)
      (pss_one (ps_ret (pe_callB (cr_all rfl) (by rfl) T.f_all (by decide +kernel) (pa_cons
        (pe_lc (own := [("sign", 1)]) (g := gName 1) (tt := tYes) rfl sc_is_name.nd (pi_str (pv 0)) (blkOk_by (N := ["thing", "sign"]) (sc := defScope s_is_name) (by decide +kernel)) (fun _ _ _ _ _ => pg_name (i := 1) sc_is_name.nd rfl (Or.inl rfl)) (fun _ _ _ _ _ => pts_nil)
          (fun _ _ _ _ _ => pe_or (pe_cmpR op_in_sign (pv 1) (pe_glob (v := .str small0) (by rfl) gS ⟨_, rfl⟩) rfl) (pe_one (pe_cmpR op_in_sign (pv 1) (pe_glob (v := .str figs0) (by rfl) gF ⟨_, rfl⟩) rfl)))) pa_nil)))), ?_⟩
    refine ⟨_, rfl, .str z, _, _, _, true, rfl, .ty "str", .base (.str z), kit_ty (by decide +kernel), _, rfl, iteF ?_⟩
    refine ⟨_, rfl, .str z, z.length, rfl, ⟨by omega, rfl⟩, _, _, rfl, rfl, _, rfl, ?_⟩
    rw [decide_eq_true (show (1 : Int) ≤ (z.length : Nat) by omega)]
    refine iteT ⟨_, _, rfl, rfl, _, rfl, ?_⟩
    rw [decide_eq_true (show ((z.length : Nat) : Int) ≤ 12 by omega)]
    refine iteF ⟨_, rfl, z, 0, c0, rfl, rfl, by omega, atI_nat (j := 0) e0, c0, _, rfl, rfl, _, rfl, ?_⟩
    rw [show decide (c0 ∈ small0.cps.toList) = true from i0]
    refine iteF ?_
    refine ⟨_, rfl, _, rfl, fun D hD => lc_fm walk_str (fun i => (z.cps.toList[i]?).map fun c => V.bl (inSm c || inFg c)) hzn hD (fun _ _ => trivial) (fun i x H1 H2 hi s1 y R N kR kN => ?_) fun H1 s1 hD1 => ?_⟩
    · obtain ⟨e1, c, ec, rfl⟩ := y
      subst e1
      refine ⟨rfl, ?_⟩
      have ec' : z.cps.toList[i]? = some c := by rw [Array.getElem?_toList]; exact ec
      refine ⟨_, rfl, c, small0, rfl, rfl, _, rfl, ?_⟩
      have hv : (z.cps.toList[i]?.map fun c => V.bl (inSm c || inFg c)) = some (V.bl (inSm c || inFg c)) := by rw [ec']; rfl
      by_cases hc : inSm c = true
      · rw [show decide (c ∈ small0.cps.toList) = true from hc]
        refine iteT (kR _ _ ?_ (Same.refl _))
        rw [hv, hc]; rfl
      · have hc' : inSm c = false := by simpa using hc
        rw [show decide (c ∈ small0.cps.toList) = false from hc']
        refine iteF ⟨_, rfl, c, figs0, rfl, rfl, kR _ _ ?_ (Same.refl _)⟩
        rw [hv, hc']; rfl
    · have e2 : z.cps.size = z.cps.toList.length := by simp
      rw [e2, fm_map] at hD1
      refine ⟨D, z.cps.toList.map (fun c => inSm c || inFg c), rfl, .of (by rw [hD1, List.map_map]; rfl), ?_⟩
      have e3 : (z.cps.toList.map fun c => inSm c || inFg c).all id = true := by
        rw [List.all_map]
        exact z4
      rw [e3]
      exact k H1 s1
theorem sc_are_names : FnScope ["thing", "one"] ["thing"] (defScope s_are_names) := ⟨rfl, rfl, rfl, by decide +kernel, rfl, by decide +kernel, by decide +kernel⟩
theorem ok_are_names (T : TX K mg) : Ok P w K mg base 2 ("are_names", none) ["thing"] [] spAreNames := by
  refine ok_def (d := d_are_names) T.fd_d_are_names rfl rfl sc_are_names (fun _ _ _ _ _ _ us hl => match us, hl with | [_], _ => rfl) (fun vs H Q E h => ?_) fun cdv A outer s H vs Q E hr h => ?_
  · obtain ⟨p, a, zs, rfl, _⟩ := h
    rfl
  · obtain ⟨p, a, zs, rfl, hs, hg, hnd, hlen, k⟩ := h
    have hl : sizeLine = 16777216 := sizeLine_eq
    refine ⟨_, pss_cons (ps_if (PW.pt (pw_or (pt_not (pt_val (pe_f (ok_is_list T) hr (by decide) T.g_is_list (by rfl) (pa_cons (pv 0) pa_nil))))
        (pw_or1 (pt_not (pt_val (pe_callB (cr_all rfl) (by rfl) T.f_all (by decide +kernel) (pa_cons
          (pe_lc (own := [("one", 1)]) (g := gName 1) (tt := tYes) rfl sc_are_names.nd (pi_sqB (pv 0)) (blkOk_by (N := ["thing", "one"]) (sc := defScope s_are_names) (by decide +kernel)) (fun _ _ _ _ _ => pg_name (i := 1) sc_are_names.nd rfl (Or.inl rfl)) (fun _ _ _ _ _ => pts_nil)
            (fun _ _ _ _ _ => pe_f (ok_is_name T) hr (by decide) T.g_is_name (by rfl) (pa_cons (pv 1) pa_nil))) pa_nil))))))) (pss_one (ps_ret pe_bl)) pss_nil)
      (pss_one (ps_ret (pe_cmpR op_eq (pe_lenSetB rfl (by rfl) T.f_len (by rfl) T.f_set (pv 0)) (pe_callB call_len (by rfl) T.f_len PySem.boot_len (pa_cons (pv 0) pa_nil)) (nomark _)))), ?_⟩
    refine ⟨_, rfl, p, a, _, rfl, hs, fun H1 s1 => ⟨_, rfl, iteF ?_⟩⟩
    refine ⟨_, rfl, p, a, _, rfl, (hs.keep s1).sqb, fun D hD => lc_fm walk_sqB (fun i => ((zs.map V.str)[i]?).map fun _ => V.bl true) (by rw [List.length_map]; omega) hD (fun H2 s2 => (hs.keep (s1.trans s2)).sqb) (fun i x H2 H3 hi s2 y R N kR kN => ?_) fun H2 s2 hD2 => ?_⟩
    · obtain ⟨e1, ex⟩ := y
      subst e1
      refine ⟨rfl, ?_⟩
      have hx := ex
      rw [List.getElem?_map] at hx
      obtain ⟨z, ez, rfl⟩ := Option.map_eq_some_iff.mp hx
      refine ⟨_, rfl, z, rfl, List.all_eq_true.mp hg z (List.mem_of_getElem? ez), fun H4 s4 => kR _ _ ?_ s4⟩
      show ((zs.map V.str)[i]?).map _ = _
      rw [ex]; rfl
    · rw [fm_map] at hD2
      refine ⟨D, zs.map fun _ => true, rfl, .of (by rw [hD2, List.map_map, List.map_map]; rfl), _, rfl, ?_⟩
      have e3 : (zs.map fun _ => true).all id = true := by rw [List.all_map]; simp
      rw [e3]
      refine iteF ?_
      have s3 := s1.trans s2
      refine ⟨_, rfl, p, a, zs, rfl, (hs.keep s3).sqb, hnd, by omega, _, rfl, _, _, rfl, (hs.keep s3).len, rfl, ?_⟩
      rw [List.length_map, decide_eq_true rfl]
      exact k H2 s3
end
end My

set_option Elab.async false
set_option linter.all false
set_option maxRecDepth 100000
set_option maxHeartbeats 4000000
namespace My
open PySem PySem.Spec PyProof.Rows L2

theorem b_isinstance : bootBuiltins "isinstance" = some (.builtin "isinstance") := by decide +kernel
theorem b_any : bootBuiltins "any" = some (.builtin "any") := by decide +kernel
theorem b_all : bootBuiltins "all" = some (.builtin "all") := by decide +kernel
theorem b_min : bootBuiltins "min" = some (.builtin "min") := by decide +kernel
theorem b_max : bootBuiltins "max" = some (.builtin "max") := by decide +kernel
theorem b_list : bootBuiltins "list" = some (.type "list") := by decide +kernel
theorem b_tuple : bootBuiltins "tuple" = some (.type "tuple") := by decide +kernel
theorem b_int : bootBuiltins "int" = some (.type "int") := by decide +kernel
theorem b_bool : bootBuiltins "bool" = some (.type "bool") := by decide +kernel
theorem b_str : bootBuiltins "str" = some (.type "str") := by decide +kernel
theorem b_dict : bootBuiltins "dict" = some (.type "dict") := by decide +kernel
theorem cut_whole {xs : List V} {lo hi : Option Int} (h : HT.sIx xs.length 0 lo = 0 ∧ HT.sIx xs.length xs.length hi = xs.length) : cutV xs lo hi = xs := by
  unfold cutV
  rw [h.1, h.2]
  simp
theorem cut_take (xs : List V) (k : Nat) : cutV xs none (some (k : Int)) = xs.take k := by
  unfold cutV
  rw [HT.sIx_nat, HT.sIx_none, List.drop_zero, Nat.sub_zero]
  by_cases h : k ≤ xs.length
  · rw [Nat.min_eq_left h]
  · rw [Nat.min_eq_right (by omega), List.take_length, List.take_of_length_le (by omega)]
def rSlB : V → Option Int → Option Int → Hp → VK → Prop := fun x lo hi H Q => ∃ p a xs, x = .ref a ∧ SeqH H p a xs ∧ ∀ b H', Same H H' → SeqH H' p b (cutV xs lo hi) → Q (.ref b) H'
theorem sl_B {X : Cx} : SlR X rSlB := by
  intro pins s σ H x v vl vu lo hi sl Q I rx hs pl pu h
  obtain ⟨p, a, xs, rfl, hq, k⟩ := h
  cases p with
  | true => exact sl_list pins s σ H _ v vl vu lo hi sl Q I rx hs pl pu ⟨a, xs, rfl, .of hq, fun q hq => k q _ (same_new hq) upd_same⟩
  | false =>
    refine sl_tupA pins s σ H _ v vl vu lo hi sl Q I rx hs pl pu ⟨a, xs, rfl, .of hq, fun hw => k a H (Same.refl H) ?_, fun _ q hq => k q _ (same_new hq) upd_same⟩
    rw [cut_whole hw]
    exact hq

def hid (D : Addr) (H : Hp) : Hp := fun b => if b = D then none else H b
theorem hid_ne {D b : Addr} {H : Hp} (h : b ≠ D) : hid D H b = H b := if_neg h
theorem hid_upd {D : Addr} {H : Hp} {o : HO} : hid D (upd H D o) = hid D H := by
  funext b
  unfold hid
  by_cases e : b = D
  · rw [if_pos e, if_pos e]
  · rw [if_neg e, if_neg e, upd_ne e]
theorem hid_same {D : Addr} {H : Hp} : Same (hid D H) H := fun b o e => by
  unfold hid at e
  split at e
  · cases e
  · exact e
theorem hid_mono {D : Addr} {H H' : Hp} (k : Same H H') : Same (hid D H) (hid D H') := fun b o e => by
  unfold hid at e ⊢
  split at e
  · cases e
  · rename_i h; rw [if_neg h]; exact k b o e
theorem lc_rel {J : It} {n : Nat} {G : Hp → Prop} {Y : Nat → Hp → V → Hp → Prop} (w : Walk J n G Y) (Rl : Nat → V → Hp → Prop) {g : TG} {tt : TT} {te : TE} {vs : List Nat} {σ : L2.St} {H1 : Hp} {D : Addr} {Qd : Hp → Prop} (hn : n ≤ 100000) (hD : H1 D = none)
    (hst : ∀ i y H H', Rl i y H → Same H H' → Rl i y H') (hG : ∀ H, Same H1 H → G H)
    (hs : ∀ i x H H', i < n → Same H1 H → (∃ o, H D = some o) → Y i H x H' → ∀ (R : V → Hp → Prop), (∀ y H4, Rl i y (hid D H4) → Same H H4 → R y H4) →
      g x (wipe σ vs) H' fun σ2 H2 => wipe σ2 vs = wipe σ vs ∧ tt σ2 H2 fun b H3 => b = true ∧ te σ2 H3 R)
    (mono : ∀ σ H (Q Q' : Bool → Hp → Prop), (∀ b H1, Q b H1 → Q' b H1) → tt σ H Q → tt σ H Q') (gmono : ∀ v σ H (Q Q' : L2.St → Hp → Prop), (∀ σ1 H1, Q σ1 H1 → Q' σ1 H1) → g v σ H Q → g v σ H Q')
    (hd : ∀ H acc, Same H1 H → H D = some (.lst acc) → acc.length = n → (∀ j y, acc[j]? = some y → Rl j y H) → Qd H) :
    ∃ W : Nat → Nat → Hp → Prop, (∃ m, W 0 m (upd H1 D (.lst []))) ∧ ∀ i m H, W i m H →
      (J.stop i H ∧ Qd H) ∨ (J.go i H ∧ ∃ Nx : Hp → Prop, (∀ H', Nx H' → ∃ m', m' < m ∧ W (i + 1) m' H') ∧ ∀ x H', J.yld i H x H' → g x (wipe σ vs) H' fun σ2 H2 => wipe σ2 vs = wipe σ vs ∧ tt σ2 H2 fun b H3 =>
        if b = true then te σ2 H3 fun y H4 => ∃ acc, H4 D = some (.lst acc) ∧ acc.length < sizeLine ∧ Nx (upd H4 D (.lst (acc ++ [y]))) else Nx H3) := by
  have hz : sizeLine = 16777216 := sizeLine_eq
  refine lc_it w (fun i H => Same H1 H ∧ ∃ acc, H D = some (.lst acc) ∧ acc.length = i ∧ ∀ j y, acc[j]? = some y → Rl j y (hid D H)) ⟨same_new hD, [], upd_same, rfl, fun j y e => by simp at e⟩ (fun i H _ p => hG H p.1) (fun i x H H' hi p y => ?_) fun H p => ?_
  · obtain ⟨s1, acc, hDl, hl, ha⟩ := p
    have key := hs i x H H' hi s1 ⟨_, hDl⟩ y (fun y H4 => ∃ acc, H4 D = some (.lst acc) ∧ acc.length < sizeLine ∧ (Same H1 (upd H4 D (.lst (acc ++ [y]))) ∧ ∃ acc', (upd H4 D (.lst (acc ++ [y]))) D = some (.lst acc') ∧ acc'.length = i + 1 ∧ ∀ j y', acc'[j]? = some y' → Rl j y' (hid D (upd H4 D (.lst (acc ++ [y])))))) fun y4 H4 r4 s4 => ?_
    · refine gmono _ _ _ _ _ (fun σ2 H2 q => ⟨q.1, mono _ _ _ _ (fun b H3 q3 => ?_) q.2⟩) key
      obtain ⟨e, q3⟩ := q3
      subst e
      rw [if_pos rfl]
      exact q3
    · refine ⟨acc, s4 _ _ hDl, by omega, same_put (s1.trans s4) hD, _, upd_same, by rw [List.length_append, hl]; rfl, fun j y' e => ?_⟩
      rw [hid_upd]
      by_cases hj : j < acc.length
      · rw [List.getElem?_append_left hj] at e
        exact hst _ _ _ _ (ha j y' e) (hid_mono s4)
      · rw [List.getElem?_append_right (by omega)] at e
        have hj0 : j - acc.length = 0 := by
          have := (List.getElem?_eq_some_iff.mp e).1
          simp at this
          omega
        rw [hj0] at e
        have e' : y4 = y' := by simpa using e
        have ej : j = i := by omega
        rw [ej, ← e']
        exact r4
  · obtain ⟨s1, acc, hDl, hl, ha⟩ := p
    exact hd H acc s1 hDl hl fun j y e => hst _ _ _ _ (ha j y e) hid_same
theorem yes_mono : ∀ (σ : L2.St) (H : Hp) (Q Q' : Bool → Hp → Prop), (∀ b H1, Q b H1 → Q' b H1) → tYes σ H Q → tYes σ H Q' := fun _ _ _ _ f q => f _ _ q
theorem name_mono (i : Nat) : ∀ (v : V) (σ : L2.St) (H : Hp) (Q Q' : L2.St → Hp → Prop), (∀ σ1 H1, Q σ1 H1 → Q' σ1 H1) → gName i v σ H Q → gName i v σ H Q' := fun _ _ _ _ _ f q => f _ _ q

def rListOf (K : PySem.W.Frag) : List V → Hp → VK → Prop := fun xs H Q => ∃ p ys, xs = [.ref p] ∧ (SqL K H p ys ∨ SqT K H p ys) ∧ ∀ l, H l = none → Q (.ref l) (upd H l (.lst ys))
def RowsAt (H : Hp) (p : Bool) (a : Addr) (rows : List (List Str)) : Prop := ∃ rs : List (Bool × Addr), SeqH H p a (rs.map fun r => V.ref r.2) ∧ rs.length = rows.length ∧
  ∀ (i : Nat) r row, rs[i]? = some r → rows[i]? = some row → SeqH H r.1 r.2 (row.map V.str)
theorem RowsAt.keep {H H' : Hp} {p : Bool} {a : Addr} {rows : List (List Str)} (h : RowsAt H p a rows) (k : Same H H') : RowsAt H' p a rows := by
  obtain ⟨rs, h1, h2, h3⟩ := h
  exact ⟨rs, h1.keep k, h2, fun i r row e1 e2 => (h3 i r row e1 e2).keep k⟩
def okNames (zs : List Str) : Prop := zs.all goodN = true ∧ zs.Nodup ∧ zs.length ≤ 20
def okRows (rows : List (List Str)) : Prop := rows ≠ [] ∧ rows.length ≤ 20 ∧ ∀ row ∈ rows, okNames row

theorem inV_take {zs : List Str} (h : zs.Nodup) {i : Nat} {z : Str} (e : zs[i]? = some z) : inV (.str z) ((zs.map V.str).take i) = false := by
  unfold inV
  rw [List.any_eq_false]
  intro y hy
  rw [← List.map_take] at hy
  obtain ⟨x, hx, rfl⟩ := List.mem_map.mp hy
  obtain ⟨j, hj⟩ := List.mem_iff_getElem?.mp hx
  rw [List.getElem?_take] at hj
  show ¬ (x == z) = true
  intro q
  have q' : x = z := eq_of_beq q
  by_cases hji : j < i
  · rw [if_pos hji, q'] at hj
    exact absurd (nd_ix h hj e) (by omega)
  · rw [if_neg hji] at hj; cases hj
theorem flat_take (zs : List Str) (i : Nat) : ((zs.map V.str).take i).all flatV = true := by
  rw [← List.map_take]
  exact flat_strs _

def spCS : Sp := fun vs H Q _ => ∃ p a, ∃ zs : List Str, vs = [.ref a] ∧ SeqH H p a (zs.map V.str) ∧ zs ≠ [] ∧ okNames zs ∧ ∀ l H', H l = none → Same H H' → H' l = some (.lst (zs.map V.str)) → Q (.ref l) H'
def spCA : Sp := fun vs H Q _ => ∃ p a rows, vs = [.ref a] ∧ RowsAt H p a rows ∧ okRows rows ∧ ∀ l H', H l = none → Same H H' → RowsAt H' true l rows → Q (.ref l) H'
def spCL : Sp := fun vs H Q _ => ∃ m : Int, vs = [.int m] ∧ (m = 0 ∨ m = 1) ∧ ∀ H', Same H H' → Q (.int m) H'
section
variable {P : Program} {w : World} {K : PySem.W.Frag} {mg : Str → Option Value} {base : Heap}
theorem sc_cs : FnScope ["thing", "index", "one"] ["thing"] (defScope s_checked_suspects) := ⟨rfl, rfl, rfl, by decide +kernel, rfl, by decide +kernel, by decide +kernel⟩
theorem ok_cs (T : TX K mg) : Ok P w K mg base 2 ("checked_suspects", none) ["thing"] [] spCS := by
  refine ok_def (d := d_checked_suspects) T.fd_d_checked_suspects rfl rfl sc_cs (fun _ _ _ _ _ _ us hl => match us, hl with | [_], _ => rfl) (fun vs H Q E h => ?_) fun cdv A outer s H vs Q E hr h => ?_
  · obtain ⟨p, a, zs, rfl, _⟩ := h
    rfl
  · obtain ⟨p, a, zs, rfl, hs, hne, ⟨hg, hnd, hlen⟩, k⟩ := h
    have hnz : ¬ ((zs.length : Int) = 0) := fun e => hne (List.length_eq_zero_iff.mp (by omega))
    refine ⟨_, pss_cons (ps_if (PW.pt (pw_or (pt_not (pt_val (pe_f (ok_is_list T) hr (by decide) T.g_is_list (by rfl) (pa_cons (pv 0) pa_nil))))
        (pw_or1 (pt_cmpR op_eq (pe_callB call_len (by rfl) T.f_len PySem.boot_len (pa_cons (pv 0) pa_nil)) pe_int (nomark _))))) (pss_one ps_never) pss_nil)
      (pss_cons (ps_for PassesOwn.never rfl (pi_enumB (by rfl) T.f_enumerate (pa_cons (pv 0) pa_nil)) (pg_tup rfl (pgs_cons (pg_name (i := 1) sc_cs.nd rfl (Or.inl rfl)) (pgs_cons (pg_name (i := 2) sc_cs.nd rfl (Or.inl rfl)) pgs_nil)))
        (pss_one (ps_if (PW.pt (pw_or (pt_not (pt_val (pe_f (ok_is_name T) hr (by decide) T.g_is_name (by rfl) (pa_cons (pv 2) pa_nil))))
          (pw_or1 (pt_cmpR op_in_seq (pv 2) (pe_slice sl_B (pv 0) po_none (po_some (pv 1))) rfl)))) (pss_one ps_never) pss_nil)))
      (pss_one (ps_ret (pe_callTy call_list_of (by rfl) T.f_list b_list (pa_cons (pv 0) pa_nil))))), ?_⟩
    refine ⟨_, rfl, p, a, _, rfl, hs, fun H1 s1 => ⟨_, rfl, iteF ?_⟩⟩
    refine ⟨_, rfl, _, _, rfl, (hs.keep s1).len, rfl, _, rfl, ?_⟩
    rw [List.length_map, decide_eq_false (fun q => hnz (V.int.inj q))]
    refine iteF ⟨_, rfl, p, a, _, rfl, (hs.keep s1).sqb, for_it (walk_enumB (xs := zs.map V.str)) (fun i σ H2 => ∃ v1 v2, σ = [some (.ref a), v1, v2] ∧ Same H H2) ⟨_, _, rfl, s1⟩ (fun i σ H2 _ p => ?_) (fun i x σ H2 H3 hi p y => ?_) fun σ H2 p => ?_⟩
    · obtain ⟨_, _, _, s2⟩ := p
      exact (hs.keep s2).sqb
    · obtain ⟨v1, v2, rfl, s2⟩ := p
      obtain ⟨t, x1, x2, rfl, ht, rfl, e1, e2⟩ := y
      cases e1
      have e2 : (zs.map V.str)[i]? = some x2 := e2
      rw [List.getElem?_map] at e2
      obtain ⟨z, ez, rfl⟩ := Option.map_eq_some_iff.mp e2
      have s3 : Same H (upd H2 t (.tup [.int (i : Nat), .str z])) := s2.trans (same_new ht)
      refine ⟨t, _, rfl, .of upd_same, rfl, _, _, rfl, _, _, rfl, rfl, ?_⟩
      refine ⟨_, rfl, z, rfl, List.all_eq_true.mp hg z (List.mem_of_getElem? ez), fun H4 s4 => ⟨_, rfl, iteF ?_⟩⟩
      refine ⟨_, rfl, _, rfl, _, rfl, _, rfl, p, a, _, rfl, hs.keep (s3.trans s4), fun b H5 s5 hb => ⟨b, _, rfl, hb.or, rfl, ?_, _, rfl, ?_⟩⟩
      · rw [cut_take]; exact flat_take zs i
      · rw [cut_take]
        show (if inV (.str z) _ = true then _ else _)
        rw [inV_take hnd ez]
        exact iteF ⟨_, _, rfl, (s3.trans s4).trans s5⟩
    · obtain ⟨v1, v2, rfl, s2⟩ := p
      exact ⟨_, rfl, a, _, rfl, (hs.keep s2).or, fun l hl => k l _ (s2.free hl) (s2.trans (same_new hl)) upd_same⟩
theorem sc_ca : FnScope ["thing", "index", "some"] ["thing"] (defScope s_checked_askings) := ⟨rfl, rfl, rfl, by decide +kernel, rfl, by decide +kernel, by decide +kernel⟩
theorem ok_ca (T : TX K mg) : Ok P w K mg base 3 ("checked_askings", none) ["thing"] [] spCA := by
  refine ok_def (d := d_checked_askings) T.fd_d_checked_askings rfl rfl sc_ca (fun _ _ _ _ _ _ us hl => match us, hl with | [_], _ => rfl) (fun vs H Q E h => ?_) fun cdv A outer s H vs Q E hr h => ?_
  · obtain ⟨p, a, zs, rfl, _⟩ := h
    rfl
  · obtain ⟨p, a, rows, rfl, ⟨rs, hs, hl, hrow⟩, ⟨hne, hlen, hok⟩, k⟩ := h
    have hnz : ¬ ((rs.length : Int) = 0) := fun e => hne (List.length_eq_zero_iff.mp (by omega))
    have rowof : ∀ {i : Nat} {r : Bool × Addr}, rs[i]? = some r → ∃ row, rows[i]? = some row ∧ SeqH H r.1 r.2 (row.map V.str) ∧ okNames row := fun {i r} e => by
      have hi := (List.getElem?_eq_some_iff.mp e).1
      have e2 : rows[i]? = some (rows[i]'(by omega)) := List.getElem?_eq_getElem (by omega)
      exact ⟨_, e2, hrow i r _ e e2, hok _ (List.mem_of_getElem? e2)⟩
    refine ⟨_, pss_cons (ps_if (PW.pt (pw_or (pt_not (pt_val (pe_f (ok_is_list T) hr (by decide) T.g_is_list (by rfl) (pa_cons (pv 0) pa_nil))))
        (pw_or1 (pt_cmpR op_eq (pe_callB call_len (by rfl) T.f_len PySem.boot_len (pa_cons (pv 0) pa_nil)) pe_int (nomark _))))) (pss_one ps_never) pss_nil)
      (pss_cons (ps_for PassesOwn.never rfl (pi_enumB (by rfl) T.f_enumerate (pa_cons (pv 0) pa_nil)) (pg_tup rfl (pgs_cons (pg_name (i := 1) sc_ca.nd rfl (Or.inl rfl)) (pgs_cons (pg_name (i := 2) sc_ca.nd rfl (Or.inl rfl)) pgs_nil)))
        (pss_one (ps_if (pt_not (pt_val (pe_f (ok_are_names T) hr (by decide) T.g_are_names (by rfl) (pa_cons (pv 2) pa_nil)))) (pss_one ps_never) pss_nil)))
      (pss_one (ps_ret (pe_lc (own := [("some", 2)]) (g := gName 2) (tt := tYes) (te := tCB (rListOf K) (tCons (tVar 2) tNil)) rfl sc_ca.nd (pi_sqB (pv 0)) (blkOk_by (N := ["thing", "index", "some"]) (sc := defScope s_checked_askings) (by decide +kernel)) (fun _ _ _ _ _ => pg_name (i := 2) sc_ca.nd rfl (Or.inl rfl)) (fun _ _ _ _ _ => pts_nil)
            (fun _ _ _ _ _ => pe_callTy call_list_of (by rfl) T.f_list b_list (pa_cons (pv 2) pa_nil)))))), ?_⟩
    refine ⟨_, rfl, p, a, _, rfl, hs, fun H1 s1 => ⟨_, rfl, iteF ?_⟩⟩
    refine ⟨_, rfl, _, _, rfl, (hs.keep s1).len, rfl, _, rfl, ?_⟩
    rw [List.length_map, decide_eq_false (fun q => hnz (V.int.inj q))]
    refine iteF ⟨_, rfl, p, a, _, rfl, (hs.keep s1).sqb, for_it (walk_enumB (xs := rs.map fun r => V.ref r.2)) (fun i σ H2 => ∃ v1 v2, σ = [some (.ref a), v1, v2] ∧ Same H H2) ⟨_, _, rfl, s1⟩ (fun i σ H2 _ p => ?_) (fun i x σ H2 H3 hi p y => ?_) fun σ H2 p => ?_⟩
    · obtain ⟨_, _, _, s2⟩ := p
      exact (hs.keep s2).sqb
    · obtain ⟨v1, v2, rfl, s2⟩ := p
      obtain ⟨t, x1, x2, rfl, ht, rfl, e1, e2⟩ := y
      cases e1
      have e2 : (rs.map fun r => V.ref r.2)[i]? = some x2 := e2
      rw [List.getElem?_map] at e2
      obtain ⟨r, er, rfl⟩ := Option.map_eq_some_iff.mp e2
      obtain ⟨row, e3, hsr, h1, h2, h3⟩ := rowof er
      have s3 : Same H (upd H2 t (.tup [.int (i : Nat), .ref r.2])) := s2.trans (same_new ht)
      refine ⟨t, _, rfl, .of upd_same, rfl, _, _, rfl, _, _, rfl, rfl, ?_⟩
      exact ⟨_, rfl, r.1, r.2, row, rfl, hsr.keep s3, h1, h2, by omega, fun H4 s4 => ⟨_, rfl, iteF ⟨_, _, rfl, s3.trans s4⟩⟩⟩
    · obtain ⟨v1, v2, rfl, s2⟩ := p
      refine ⟨_, rfl, p, a, _, rfl, (hs.keep s2).sqb, fun D hD => lc_rel (walk_sqB (xs := rs.map fun r => V.ref r.2)) (fun i y H' => ∃ b row, y = .ref b ∧ rows[i]? = some row ∧ H' b = some (.lst (row.map V.str))) (by rw [List.length_map]; omega) hD
        (fun i y H3 H4 h k => ?_) (fun H3 s3 => (hs.keep (s2.trans s3)).sqb) (fun i x H3 H4 hi s3 hDs y R kR => ?_) yes_mono (name_mono 2) fun H3 acc s3 hDl hal hacc => ?_⟩
      · obtain ⟨b, row, e1, e2, e3⟩ := h
        exact ⟨b, row, e1, e2, k _ _ e3⟩
      · obtain ⟨e1, ex⟩ := y
        subst e1
        rw [List.getElem?_map] at ex
        obtain ⟨r, er, rfl⟩ := Option.map_eq_some_iff.mp ex
        obtain ⟨row, e3, hsr, _⟩ := rowof er
        obtain ⟨oD, hDs⟩ := hDs
        refine ⟨rfl, rfl, _, rfl, r.2, _, rfl, (hsr.keep (s2.trans s3)).or, fun l hl => kR _ _ ⟨l, row, rfl, e3, ?_⟩ (same_new hl)⟩
        rw [hid_ne (Ne.symm (ne_of_none hDs hl)), upd_same]
      · have hD0 : H D = none := s2.free hD
        refine k D H3 hD0 (s2.trans s3) ⟨acc.map (fun y => (true, match y with | .ref b => b | _ => 0)), ?_, ?_, fun i r row e1 e2 => ?_⟩
        · show H3 D = _
          rw [hDl, List.map_map]
          congr 2
          refine (List.map_id acc).symm.trans (List.map_congr_left fun y hy => ?_)
          obtain ⟨j, hj⟩ := List.mem_iff_getElem?.mp hy
          obtain ⟨b, row, rfl, _⟩ := hacc j y hj
          rfl
        · rw [List.length_map, hal, List.length_map, hl]
        · rw [List.getElem?_map] at e1
          obtain ⟨y, ey, rfl⟩ := Option.map_eq_some_iff.mp e1
          obtain ⟨b, row', rfl, e3, e4⟩ := hacc i y ey
          rw [e2] at e3
          cases e3
          exact e4
theorem sc_cl : FnScope ["thing"] ["thing"] (defScope s_checked_lies) := ⟨rfl, rfl, rfl, by decide +kernel, rfl, by decide +kernel, by decide +kernel⟩
theorem ok_cl (T : TX K mg) : Ok P w K mg base 2 ("checked_lies", none) ["thing"] [] spCL := by
  refine ok_def (d := d_checked_lies) T.fd_d_checked_lies rfl rfl sc_cl (fun _ _ _ _ _ _ us hl => match us, hl with | [_], _ => rfl) (fun vs H Q E h => ?_) fun cdv A outer s H vs Q E hr h => ?_
  · obtain ⟨m, rfl, _⟩ := h
    rfl
  · obtain ⟨m, rfl, hm, k⟩ := h
    refine ⟨_, pss_cons (ps_if (PW.pt (pw_or (pt_not (pt_val (pe_f (ok_is_integer T) hr (by decide) T.g_is_integer (by rfl) (pa_cons (pv 0) pa_nil))))
        (pw_or1 (pt_cmpR op_notIn_seq (pv 0) (pe_tup (pa_cons pe_int (pa_cons pe_int pa_nil))) rfl)))) (pss_one ps_never) pss_nil) (pss_one (ps_ret (pv 0))), ?_⟩
    refine ⟨_, rfl, m, rfl, fun H1 s1 => ⟨_, rfl, iteF ?_⟩⟩
    refine ⟨_, rfl, by show 2 ≤ sizeLine; decide, fun q hq => ⟨q, _, rfl, .inr (.of upd_same), rfl, rfl, _, rfl, ?_⟩⟩
    have e : (!inV (V.int m) [V.int 0, V.int 1]) = false := by
      rcases hm with rfl | rfl <;> rfl
    show (if (!inV (V.int m) [V.int 0, V.int 1]) = true then _ else _)
    rw [e]
    exact iteF ⟨_, rfl, k _ (s1.trans (same_new hq))⟩
end
end My

set_option Elab.async false
set_option linter.all false
set_option maxRecDepth 100000
set_option maxHeartbeats 4000000
namespace My
open PySem PySem.Spec PyProof.Rows L2

def lcScope (e : Expr) : Scope := match e with
  | .ListComp _ _ sc _ => sc
  | _ => { kind := .function, names := [], isGenerator := false, isCoroutine := false }
def stE (s : Stmt) : Expr := match s with
  | .Assign _ e _ => e
  | .Return (some e) _ => e
  | .Expr e _ => e
  | _ => .Constant .none 0 ⟨0, 0, 0, 0⟩
def arg0 (e : Expr) : Expr := match e with
  | .Call _ (a :: _) _ _ => a
  | _ => e
def stAt (b : List Stmt) (i : Nat) : Stmt := b.getD i (.Pass ⟨0, 0, 0, 0⟩)

def But (p : Addr) (H H' : Hp) : Prop := ∀ b o, H b = some o → b ≠ p → H' b = some o
theorem But.refl (p : Addr) (H : Hp) : But p H H := fun _ _ e _ => e
theorem But.of {p : Addr} {H H' : Hp} (h : Same H H') : But p H H' := fun b o e _ => h b o e
theorem But.trans {p : Addr} {H H1 H2 : Hp} (a : But p H H1) (b : But p H1 H2) : But p H H2 := fun c o e n => b c o (a c o e n) n
theorem But.up {p : Addr} {H : Hp} {o : HO} : But p H (upd H p o) := fun b u e n => by rw [upd_ne n]; exact e
theorem SeqH.but {p : Addr} {H H' : Hp} {b : Bool} {a : Addr} {xs : List V} (h : SeqH H b a xs) (n : a ≠ p) (k : But p H H') : SeqH H' b a xs := by
  cases b with
  | true => exact k _ _ h n
  | false => exact k _ _ h n
theorem SeqH.ne_ins {H : Hp} {b : Bool} {a p C dx : Addr} {fs : List (Str × V)} {xs : List V} (h : SeqH H b a xs) (hp : H p = some (.ins C dx fs)) : a ≠ p := by
  cases b with
  | true => exact ne_of h hp (fun z => nomatch z)
  | false => exact ne_of h hp (fun z => nomatch z)
theorem SeqH.ne_ext {H : Hp} {b : Bool} {a p : Addr} {φ : Heap → Prop} {xs : List V} (h : SeqH H b a xs) (hp : H p = some (.ext φ)) : a ≠ p := by
  cases b with
  | true => exact ne_of h hp (fun z => nomatch z)
  | false => exact ne_of h hp (fun z => nomatch z)
theorem RowsAt.but_ins {p C dx : Addr} {fs : List (Str × V)} {H H' : Hp} {b : Bool} {a : Addr} {rows : List (List Str)} (h : RowsAt H b a rows) (hp : H p = some (.ins C dx fs)) (k : But p H H') : RowsAt H' b a rows := by
  obtain ⟨rs, h1, h2, h3⟩ := h
  exact ⟨rs, h1.but (h1.ne_ins hp) k, h2, fun i r row e1 e2 => (h3 i r row e1 e2).but ((h3 i r row e1 e2).ne_ins hp) k⟩

abbrev sOnes : Str := "ones"
abbrev sMost : Str := "most"
abbrev sSigns : Str := "signs"
abbrev sKnown : Str := "known"
theorem om : ¬ sOnes = sMost := by decide +kernel
theorem os : ¬ sOnes = sSigns := by decide +kernel
theorem ok' : ¬ sOnes = sKnown := by decide +kernel
theorem ms : ¬ sMost = sSigns := by decide +kernel
theorem mk' : ¬ sMost = sKnown := by decide +kernel
theorem sk : ¬ sSigns = sKnown := by decide +kernel
def hf (o : Addr) (m : Int) (s d : Addr) : List (Str × V) := putF sKnown (.ref d) (putF sSigns (.ref s) (putF sMost (.int m) (putF sOnes (.ref o) [])))
theorem hf_ones (o : Addr) (m : Int) (s d : Addr) : (hf o m s d).lookup sOnes = some (.ref o) := by
  unfold hf
  rw [lookup_putF, if_neg ok', lookup_putF, if_neg os, lookup_putF, if_neg om, lookup_putF, if_pos rfl]
theorem hf_most (o : Addr) (m : Int) (s d : Addr) : (hf o m s d).lookup sMost = some (.int m) := by
  unfold hf
  rw [lookup_putF, if_neg mk', lookup_putF, if_neg ms, lookup_putF, if_pos rfl]
theorem hf_signs (o : Addr) (m : Int) (s d : Addr) : (hf o m s d).lookup sSigns = some (.ref s) := by
  unfold hf
  rw [lookup_putF, if_neg sk, lookup_putF, if_pos rfl]
theorem hf_known (o : Addr) (m : Int) (s d : Addr) : (hf o m s d).lookup sKnown = some (.ref d) := by
  unfold hf
  rw [lookup_putF, if_pos rfl]
theorem hf_no (o : Addr) (m : Int) (s d : Addr) {x : Str} (h1 : ¬ x = sOnes) (h2 : ¬ x = sMost) (h3 : ¬ x = sSigns) (h4 : ¬ x = sKnown) : (hf o m s d).lookup x = none := by
  unfold hf
  rw [lookup_putF, if_neg h4, lookup_putF, if_neg h3, lookup_putF, if_neg h2, lookup_putF, if_neg h1] <;> rfl
structure HuntAt (K : PySem.W.Frag) (H : Hp) (p d : Addr) (names : List Str) (most : Int) (signs : List (List Bool)) : Prop where
  ex : ∃ dx oA sA, ∃ ras : List Addr, H p = some (.ins (CH K) dx (hf oA most sA d)) ∧ H oA = some (.lst (names.map V.str)) ∧ H sA = some (.lst (ras.map V.ref)) ∧ ras.length = signs.length ∧
    ∀ (i : Nat) a r, ras[i]? = some a → signs[i]? = some r → H a = some (.lst (r.map V.bl))
theorem HuntAt.keep {K : PySem.W.Frag} {H H' : Hp} {p d : Addr} {names : List Str} {most : Int} {signs : List (List Bool)} (h : HuntAt K H p d names most signs) (k : Same H H') : HuntAt K H' p d names most signs := by
  obtain ⟨dx, oA, sA, ras, h1, h2, h3, h4, h5⟩ := h
  exact ⟨dx, oA, sA, ras, k _ _ h1, k _ _ h2, k _ _ h3, h4, fun i a r e1 e2 => k _ _ (h5 i a r e1 e2)⟩
theorem HuntAt.but {K : PySem.W.Frag} {H H' : Hp} {p d : Addr} {names : List Str} {most : Int} {signs : List (List Bool)} {φ : Heap → Prop} (h : HuntAt K H p d names most signs) (hd : H d = some (.ext φ)) (k : But d H H') : HuntAt K H' p d names most signs := by
  obtain ⟨dx, oA, sA, ras, h1, h2, h3, h4, h5⟩ := h
  exact ⟨dx, oA, sA, ras, k _ _ h1 (ne_of h1 hd (fun z => nomatch z)), k _ _ h2 (ne_of h2 hd (fun z => nomatch z)), k _ _ h3 (ne_of h3 hd (fun z => nomatch z)), h4, fun i a r e1 e2 => k _ _ (h5 i a r e1 e2) (ne_of (h5 i a r e1 e2) hd (fun z => nomatch z))⟩

def signsOf (names : List Str) (rows : List (List Str)) : List (List Bool) := rows.map fun row => names.map fun nm => decide (nm ∈ row)
def left (names : List Str) (most : Int) (st : List Int) : List Str := (names.zip st).filterMap fun q => if q.2 ≤ most then some q.1 else none
theorem inV_mem (nm : Str) (row : List Str) : inV (.str nm) (row.map V.str) = decide (nm ∈ row) := by
  unfold inV
  rw [List.any_map]
  by_cases h : nm ∈ row
  · rw [decide_eq_true h, List.any_eq_true]
    exact ⟨nm, h, beq_self_eq_true nm⟩
  · rw [decide_eq_false h, List.any_eq_false]
    intro x hx q
    have q' : x = nm := eq_of_beq q
    exact h (q' ▸ hx)

def spInit (P : Program) (w : World) (K : PySem.W.Frag) : Sp := fun vs H Q _ => ∃ p dx sp su ap ask, ∃ names : List Str, ∃ rows, ∃ m : Int, vs = [.ref p, .ref su, .ref ask, .int m] ∧ H p = some (.ins (CH K) dx []) ∧ SeqH H sp su (names.map V.str) ∧ names ≠ [] ∧ okNames names ∧
  RowsAt H ap ask rows ∧ okRows rows ∧ (m = 0 ∨ m = 1) ∧ ∀ H' d, H d = none → But p H H' → HuntAt K H' p d names m (signsOf names rows) → DN P w H' d [] → Q .non H'
def spBegun (K : PySem.W.Frag) : Sp := fun vs H Q _ => ∃ p d names most signs, vs = [.ref p] ∧ HuntAt K H p d names most signs ∧ names ≠ [] ∧ names.length ≤ 20 ∧
  ∀ q H', Same H H' → H' q = some (.tup ((List.replicate names.length (0 : Int)).map V.int)) → Q (.ref q) H'
def spLeft (K : PySem.W.Frag) : Sp := fun vs H Q _ => ∃ p d names most signs sa, ∃ st : List Int, vs = [.ref p, .ref sa] ∧ HuntAt K H p d names most signs ∧ names.length ≤ 20 ∧ H sa = some (.tup (st.map V.int)) ∧ st.length = names.length ∧
  ∀ l H', H l = none → Same H H' → H' l = some (.lst ((left names most st).map V.str)) → Q (.ref l) H'
section
variable {P : Program} {w : World} {K : PySem.W.Frag} {mg : Str → Option Value} {base : Heap}
abbrev nInit : List Str := ["self", "suspects", "askings", "lies", "some", "row", "one"]
theorem sc_init : FnScope nInit ["self", "suspects", "askings", "lies"] (defScope m___init__) := ⟨rfl, rfl, rfl, by decide +kernel, rfl, by decide +kernel, by decide +kernel⟩
theorem ok_init (T : TX K mg) : Ok P w K mg base 4 ("Hunt", some "__init__") ["self", "suspects", "askings", "lies"] [] (spInit P w K) := by
  refine ok_def (d := dm___init__) T.fd_dm___init__ rfl rfl sc_init (fun _ _ _ _ _ _ us hl => match us, hl with | [_, _, _, _], _ => rfl) (fun vs H Q E h => ?_) fun cdv A outer s H vs Q E hr h => ?_
  · obtain ⟨_, _, _, _, _, _, _, _, _, rfl, _⟩ := h
    rfl
  · obtain ⟨p, dx, sp, su, ap, ask, names, rows, m, rfl, hp, hsu, hne, hnm, hask, hrw, hm, k⟩ := h
    refine ⟨_, pss_cons (ps_fld (pv 0) (pe_f (ok_cs T) hr (by decide) T.g_checked_suspects (by rfl) (pa_cons (pv 1) pa_nil)) rfl)
      (pss_cons (ps_set (i := 4) sc_init.nd rfl (Or.inl rfl) (pe_f (ok_ca T) hr (by decide) T.g_checked_askings (by rfl) (pa_cons (pv 2) pa_nil)))
      (pss_cons (ps_fld (pv 0) (pe_f (ok_cl T) hr (by decide) T.g_checked_lies (by rfl) (pa_cons (pv 3) pa_nil)) rfl)
      (pss_cons (ps_fld (pv 0) (pe_lc (own := [("row", 5)]) (g := gName 5) (tt := tYes) (te := tLc (iSqB K (tFld K (tVar 0) sOnes)) (gName 6) tYes (tOp (rIn K false) (tVar 6) (tVar 5)) [6]) rfl sc_init.nd (pi_sqB (pv 4))
          (blkOk_by (N := nInit) (sc := defScope m___init__) (by decide +kernel)) (fun _ _ _ _ _ => pg_name (i := 5) sc_init.nd rfl (Or.inr rfl)) (fun _ _ _ _ _ => pts_nil)
          (fun _ _ _ _ _ => pe_lc (own := [("one", 6)]) (g := gName 6) (tt := tYes) (te := tOp (rIn K false) (tVar 6) (tVar 5)) rfl sc_init.nd (pi_sqB (pe_fld (pv 0) rfl))
            (blkOk_by (N := nInit) (sc := relS (lcScope (stE (stAt (defBody m___init__) 3))) (defScope m___init__)) (by decide +kernel)) (fun _ _ _ _ _ => pg_name (i := 6) sc_init.nd rfl (Or.inl rfl)) (fun _ _ _ _ _ => pts_nil)
            (fun _ _ _ _ _ => pe_cmpR op_in_seq (pv 6) (pv 5) rfl))) rfl)
      (pss_one (ps_fld (pv 0) pe_newN rfl))))), ?_⟩
    refine ⟨_, rfl, sp, su, names, rfl, hsu, hne, hnm, fun l1 H1 hl1 s1 e1 => ⟨_, rfl, p, CH K, dx, [], rfl, s1 _ _ hp, T.cl, T.n_ones, by decide, ?_⟩⟩
    have nl1 : l1 ≠ p := ne_of e1 (s1 _ _ hp) (fun z => nomatch z)
    have b1 : But p H (upd H1 p (.ins (CH K) dx (putF sOnes (.ref l1) []))) := (But.of s1).trans But.up
    refine ⟨_, rfl, ap, ask, rows, rfl, hask.but_ins hp b1, hrw, fun l2 H2 hl2 s2 r2 => ?_⟩
    refine ⟨_, rfl, m, rfl, hm, fun H3 s3 => ?_⟩
    have hp3 : H3 p = some (.ins (CH K) dx (putF sOnes (.ref l1) [])) := s3 _ _ (s2 _ _ upd_same)
    refine ⟨_, rfl, p, CH K, dx, _, rfl, hp3, T.cl, T.n_most, by show 1 < 1000; decide, ?_⟩
    have b3 : But p H (upd H3 p (.ins (CH K) dx (putF sMost (.int m) (putF sOnes (.ref l1) [])))) := (b1.trans (But.of (s2.trans s3))).trans But.up
    have o3 : (upd H3 p (.ins (CH K) dx (putF sMost (.int m) (putF sOnes (.ref l1) [])))) l1 = some (.lst (names.map V.str)) := by
      rw [upd_ne nl1]
      exact s3 _ _ (s2 _ _ (by rw [upd_ne nl1]; exact e1))
    have r3 : RowsAt (upd H3 p (.ins (CH K) dx (putF sMost (.int m) (putF sOnes (.ref l1) [])))) true l2 rows := (r2.keep s3).but_ins hp3 But.up
    obtain ⟨rs, g1, g2, g3⟩ := r3
    generalize hH4 : upd H3 p (.ins (CH K) dx (putF sMost (.int m) (putF sOnes (.ref l1) []))) = H4 at b3 o3 g1 g3
    have hp4 : H4 p = some (.ins (CH K) dx (putF sMost (.int m) (putF sOnes (.ref l1) []))) := by rw [← hH4]; exact upd_same
    refine ⟨_, rfl, true, l2, _, rfl, g1.sqb, fun D hD => lc_rel (walk_sqB (xs := rs.map fun r => V.ref r.2)) (fun i y H' => ∃ b row, y = .ref b ∧ rows[i]? = some row ∧ H' b = some (.lst ((names.map fun nm => decide (nm ∈ row)).map V.bl)))
      (by rw [List.length_map, g2]; have := hrw.2.1; omega) hD (fun i y G G' h k => ?_) (fun G s5 => (g1.keep s5).sqb) (fun i x G G' hi s5 hDs y R kR => ?_) yes_mono (name_mono 5) fun G acc s5 hDl hal hacc => ?_⟩
    · obtain ⟨b, row, e1, e2, e3⟩ := h
      exact ⟨b, row, e1, e2, k _ _ e3⟩
    · obtain ⟨e5, ex⟩ := y
      subst e5
      rw [List.getElem?_map] at ex
      obtain ⟨r, er, rfl⟩ := Option.map_eq_some_iff.mp ex
      have hir : i < rows.length := by have := (List.getElem?_eq_some_iff.mp er).1; omega
      have e6 : rows[i]? = some rows[i] := List.getElem?_eq_getElem hir
      generalize hrow : rows[i] = row at e6
      have hsr := (g3 i r row er e6).keep s5
      obtain ⟨oD, hDs⟩ := hDs
      have ho := s5 _ _ o3
      refine ⟨rfl, rfl, ?_⟩
      refine ⟨_, rfl, p, CH K, dx, _, _, rfl, s5 _ _ hp4, T.cl, T.n_ones, by rw [lookup_putF, if_neg om, lookup_putF, if_pos rfl], true, l1, _, rfl, .of ho, fun D2 hD2 => ?_⟩
      refine lc_fm (walk_sqB (p := true) (xs := names.map V.str)) (fun j => (names[j]?).map fun nm => V.bl (decide (nm ∈ row))) (by rw [List.length_map]; have := hnm.2.2; omega) hD2 (fun G2 s6 => .of (s6 _ _ ho)) (fun j x2 G2 G3 hj s6 y2 R2 N2 kR2 kN2 => ?_) fun G2 s6 h6 => ?_
      · obtain ⟨e7, ex2⟩ := y2
        subst e7
        rw [List.getElem?_map] at ex2
        obtain ⟨nm, en, rfl⟩ := Option.map_eq_some_iff.mp ex2
        refine ⟨rfl, _, rfl, _, rfl, r.2, _, rfl, (hsr.keep s6).or, rfl, flat_strs _, ?_⟩
        show R2 (.bl (inV (.str nm) (row.map V.str))) _
        rw [inV_mem]
        exact kR2 _ _ (by rw [en]; rfl) (Same.refl _)
      · rw [List.length_map, fm_map] at h6
        refine kR _ _ ⟨D2, row, rfl, e6, ?_⟩ s6
        rw [hid_ne (Ne.symm (ne_of_none hDs hD2)), h6, List.map_map]
        rfl
    · have hp5 := s5 _ _ hp4
      refine ⟨_, rfl, p, CH K, dx, _, rfl, hp5, T.cl, T.n_signs, by show 2 < 1000; decide, ?_⟩
      intro d hd sm
      have nDp : D ≠ p := ne_of hDl hp5 (fun z => nomatch z)
      have ndp : d ≠ p := Ne.symm (ne_of_none upd_same hd)
      refine ⟨_, rfl, p, CH K, dx, _, rfl, (by rw [upd_ne ndp.symm, upd_same]), T.cl, T.n_known, by show 3 < 1000; decide, ?_⟩
      have low : ∀ b o, G b = some o → b ≠ p → (upd (upd (upd G p (.ins (CH K) dx (putF sSigns (.ref D) (putF sMost (.int m) (putF sOnes (.ref l1) []))))) d (NObj P w d [])) p (.ins (CH K) dx (hf l1 m D d))) b = some o := fun b o e n => by
        have nb : b ≠ d := fun z => by
          rw [z] at e
          rw [upd_ne ndp, e] at hd
          cases hd
        rw [upd_ne n, upd_ne nb, upd_ne n]
        exact e
      have dn0 : DN P w (upd (upd G p (.ins (CH K) dx (putF sSigns (.ref D) (putF sMost (.int m) (putF sOnes (.ref l1) []))))) d (NObj P w d [])) d [] := DN.new sm
      have hdn : H d = none := by
        cases q : H d with
        | none => rfl
        | some o =>
          have := s5 _ _ (b3 d o q ndp)
          rw [upd_ne ndp, this] at hd
          cases hd
      refine k _ d hdn (fun b o e n => low b o (s5 _ _ (b3 b o e n)) n) ⟨dx, l1, D, acc.map (fun y => match y with | .ref b => b | _ => 0), upd_same, low _ _ (s5 _ _ o3) nl1, ?_, ?_, fun i a r e7 e8 => ?_⟩ ⟨by rw [upd_ne ndp]; exact dn0.ob, (fun _ h => nomatch h), List.nodup_nil, sm⟩
      · refine low D _ ?_ nDp
        rw [hDl, List.map_map]
        congr 2
        refine (List.map_id acc).symm.trans (List.map_congr_left fun y hy => ?_)
        obtain ⟨j, hj⟩ := List.mem_iff_getElem?.mp hy
        obtain ⟨b, row, rfl, _⟩ := hacc j y hj
        rfl
      · rw [List.length_map, hal, List.length_map, g2]
        unfold signsOf
        rw [List.length_map]
      · rw [List.getElem?_map] at e7
        obtain ⟨y, ey, rfl⟩ := Option.map_eq_some_iff.mp e7
        obtain ⟨b, row, rfl, e9, e10⟩ := hacc i y ey
        unfold signsOf at e8
        rw [List.getElem?_map, e9] at e8
        cases e8
        exact low b _ e10 (ne_of e10 hp5 (fun z => nomatch z))
theorem sc_begun : FnScope ["self"] ["self"] (defScope m_begun) := ⟨rfl, rfl, rfl, by decide +kernel, rfl, by decide +kernel, by decide +kernel⟩
theorem ok_begun (T : TX K mg) : Ok P w K mg base 1 ("Hunt", some "begun") ["self"] [] (spBegun K) := by
  refine ok_def (d := dm_begun) T.fd_dm_begun rfl rfl sc_begun (fun _ _ _ _ _ _ us hl => match us, hl with | [_], _ => rfl) (fun vs H Q E h => ?_) fun cdv A outer s H vs Q E hr h => ?_
  · obtain ⟨_, _, _, _, _, rfl, _⟩ := h
    rfl
  · obtain ⟨p, d, names, most, signs, rfl, hh, hne, hl, k⟩ := h
    obtain ⟨dx, oA, sA, ras, h1, h2, h3, h4, h5⟩ := id hh
    have hn : 0 < names.length := by cases names with | nil => exact absurd rfl hne | cons a b => simp
    refine ⟨_, pss_one (ps_ret (pe_op op_repA (pe_tup (pa_cons pe_int pa_nil)) (pe_callB call_len (by rfl) T.f_len PySem.boot_len (pa_cons (pe_fld (pv 0) rfl) pa_nil)))), ?_⟩
    refine ⟨by show 1 ≤ sizeLine; decide, fun q hq => ?_⟩
    have s1 : Same H (upd H q (.tup [.int 0])) := same_new hq
    refine ⟨_, rfl, p, CH K, dx, _, _, rfl, s1 _ _ h1, T.cl, T.n_ones, hf_ones _ _ _ _, _, _, rfl, .inl ⟨_, .of (s1 _ _ h2), rfl⟩, q, _, [.int 0], rfl, rfl, upd_same, by simp, by rw [List.length_map]; omega, by rw [List.length_map]; omega, by show 1 ≤ 1000; decide, fun q2 H' s2 e2 => k q2 H' (s1.trans s2) ?_⟩
    rw [e2, List.length_map, Int.toNat_natCast, List.map_replicate]
    simp
theorem sc_left : FnScope ["self", "state", "one", "wrong"] ["self", "state"] (defScope m_left_ones) := ⟨rfl, rfl, rfl, by decide +kernel, rfl, by decide +kernel, by decide +kernel⟩
theorem ok_left (T : TX K mg) : Ok P w K mg base 1 ("Hunt", some "left_ones") ["self", "state"] [] (spLeft K) := by
  refine ok_def (d := dm_left_ones) T.fd_dm_left_ones rfl rfl sc_left (fun _ _ _ _ _ _ us hl => match us, hl with | [_, _], _ => rfl) (fun vs H Q E h => ?_) fun cdv A outer s H vs Q E hr h => ?_
  · obtain ⟨_, _, _, _, _, _, _, rfl, _⟩ := h
    rfl
  · obtain ⟨p, d, names, most, signs, sa, st, rfl, hh, hn, hsa, hst, k⟩ := h
    obtain ⟨dx, oA, sA, ras, h1, h2, h3, h4, h5⟩ := id hh
    refine ⟨_, pss_one (ps_ret (pe_lc (own := [("one", 2), ("wrong", 3)]) (g := gTup K 2 (gCons (gName 2) (gCons (gName 3) gNil))) (tt := tTest (tOp (rI0 fun i j => .bl (decide (i ≤ j))) (tVar 3) (tFld K (tVar 0) sMost))) (te := tVar 2) rfl sc_left.nd
      (pi_zipB (by rfl) T.f_zip (pa_cons (pe_fld (pv 0) rfl) (pa_cons (pv 1) pa_nil))) (blkOk_by (N := ["self", "state", "one", "wrong"]) (sc := defScope m_left_ones) (by decide +kernel))
      (fun _ _ _ _ _ => pg_tup rfl (pgs_cons (pg_name (i := 2) sc_left.nd rfl (Or.inl rfl)) (pgs_cons (pg_name (i := 3) sc_left.nd rfl (Or.inl rfl)) pgs_nil)))
      (fun _ _ _ _ _ => pts_one (pt_cmpR op_le (pv 3) (pe_fld (pv 0) rfl) (nomark _))) (fun _ _ _ _ _ => pv 2))), ?_⟩
    refine ⟨_, rfl, p, CH K, dx, _, _, rfl, h1, T.cl, T.n_ones, hf_ones _ _ _ _, _, rfl, true, false, oA, sa, _, _, rfl, .of h2, .of hsa, fun D hD => ?_⟩
    refine lc_fm (walk_zipB (xs := names.map V.str) (ys := st.map V.int) (by rw [List.length_map, List.length_map, hst])) (fun i => ((names.zip st)[i]?).bind fun q => if q.2 ≤ most then some (V.str q.1) else none) (by rw [List.length_map]; omega) hD
      (fun G s1 => ⟨.of (s1 _ _ h2), .of (s1 _ _ hsa)⟩) (fun i x G G' hi s1 y R N kR kN => ?_) fun G s1 hDl => ?_
    · obtain ⟨t, x1, x2, rfl, ht, rfl, e1, e2⟩ := y
      have e1 : (names.map V.str)[i]? = some x1 := e1
      have e2 : (st.map V.int)[i]? = some x2 := e2
      rw [List.getElem?_map] at e1 e2
      obtain ⟨nm, en, rfl⟩ := Option.map_eq_some_iff.mp e1
      obtain ⟨wr, ew, rfl⟩ := Option.map_eq_some_iff.mp e2
      have ez : (names.zip st)[i]? = some (nm, wr) := by rw [List.getElem?_zip_eq_some]; exact ⟨en, ew⟩
      have s2 : Same G (upd G t (.tup [.str nm, .int wr])) := same_new ht
      refine ⟨t, _, rfl, .of upd_same, rfl, _, _, rfl, _, _, rfl, rfl, rfl, ?_⟩
      refine ⟨_, rfl, _, rfl, p, CH K, dx, _, _, rfl, s2 _ _ (s1 _ _ h1), T.cl, T.n_most, hf_most _ _ _ _, _, _, rfl, rfl, _, rfl, ?_⟩
      by_cases hw : wr ≤ most
      · rw [decide_eq_true hw]
        refine ⟨_, rfl, kR _ _ ?_ s2⟩
        rw [ez]
        show (if wr ≤ most then some (V.str nm) else none) = _
        rw [if_pos hw]
      · rw [decide_eq_false hw]
        refine kN _ ?_ s2
        rw [ez]
        show (if wr ≤ most then some (V.str nm) else none) = _
        rw [if_neg hw]
    · have el : (names.map V.str).length = (names.zip st).length := by rw [List.length_map, List.length_zip, hst, Nat.min_self]
      rw [el, fm_fm] at hDl
      refine k D G hD s1 ?_
      rw [hDl]
      unfold left
      rw [List.map_filterMap]
      congr 3
      funext q
      split <;> rfl
end
end My

set_option linter.all false
namespace My
def aft1 (most : Int) (ans : Bool) (w : Int) (s : Bool) : Int :=
  if most + 1 < w + (if s != ans then 1 else 0) then most + 1 else w + (if s != ans then 1 else 0)
def aft (most : Int) (sg : List Bool) (ans : Bool) (st : List Int) : List Int := List.zipWith (aft1 most ans) st sg
def nl (most : Int) (st : List Int) : Nat := (st.filter fun w => decide (w ≤ most)).length
def En (most : Int) (signs : List (List Bool)) : Nat → List Int → Bool
  | 0, st => decide (nl most st < 2)
  | m + 1, st => decide (nl most st < 2) || signs.any fun sg => En most signs m (aft most sg true st) && En most signs m (aft most sg false st)
def Rt (most : Int) (signs : List (List Bool)) (m : Nat) (st : List Int) (sg : List Bool) : Bool := En most signs m (aft most sg true st) && En most signs m (aft most sg false st)
theorem En_succ (most : Int) (signs : List (List Bool)) (m : Nat) (st : List Int) : En most signs (m + 1) st = (decide (nl most st < 2) || signs.any (Rt most signs m st)) := rfl
theorem En_small {most : Int} {signs : List (List Bool)} {st : List Int} (h : nl most st < 2) : ∀ m, En most signs m st = true
  | 0 => decide_eq_true h
  | m + 1 => by rw [En_succ, decide_eq_true h]; rfl
theorem En_big {most : Int} {signs : List (List Bool)} {st : List Int} (h : ¬ nl most st < 2) (m : Nat) : En most signs (m + 1) st = signs.any (Rt most signs m st) := by
  rw [En_succ, decide_eq_false h]; rfl
theorem En_zero {most : Int} {signs : List (List Bool)} {st : List Int} (h : ¬ nl most st < 2) : En most signs 0 st = false := decide_eq_false h
structure StOk (most : Int) (n : Nat) (st : List Int) : Prop where
  len : st.length = n
  lo : ∀ w ∈ st, 0 ≤ w
  hi : ∀ w ∈ st, w ≤ most + 1
theorem aft_len {most : Int} {sg : List Bool} {ans : Bool} {st : List Int} (h : sg.length = st.length) : (aft most sg ans st).length = st.length := by
  unfold aft
  rw [List.length_zipWith, h, Nat.min_self]
theorem mem_zipWith {α β γ : Type} {f : α → β → γ} : ∀ {xs : List α} {ys : List β} {z : γ}, z ∈ List.zipWith f xs ys → ∃ x ∈ xs, ∃ y ∈ ys, z = f x y
  | [], _, _, h => by simp at h
  | _ :: _, [], _, h => by simp at h
  | x :: xs, y :: ys, z, h => by
    rw [List.zipWith_cons_cons] at h
    rcases List.mem_cons.mp h with e | h
    · exact ⟨x, List.mem_cons_self, y, List.mem_cons_self, e⟩
    · obtain ⟨a, ha, b, hb, e⟩ := mem_zipWith h
      exact ⟨a, List.mem_cons_of_mem _ ha, b, List.mem_cons_of_mem _ hb, e⟩
theorem aft_ok {most : Int} {n : Nat} {sg : List Bool} {ans : Bool} {st : List Int} (hm : 0 ≤ most) (h : StOk most n st) (hs : sg.length = n) : StOk most n (aft most sg ans st) := by
  refine ⟨(aft_len (by rw [hs, h.len])).trans h.len, fun w hw => ?_, fun w hw => ?_⟩
  · obtain ⟨x, hx, y, hy, rfl⟩ := mem_zipWith hw
    have := h.lo x hx
    unfold aft1
    split <;> split <;> omega
  · obtain ⟨x, hx, y, hy, rfl⟩ := mem_zipWith hw
    unfold aft1
    split <;> split <;> omega
structure WF (n : Nat) (most : Int) (signs : List (List Bool)) : Prop where
  n0 : 0 < n
  n7 : n ≤ 7
  sl : signs.length ≤ 20
  rl : ∀ r ∈ signs, r.length = n
  mo : most = 0 ∨ most = 1
theorem WF.nn {n : Nat} {most : Int} {signs : List (List Bool)} (h : WF n most signs) : 0 ≤ most := by rcases h.mo with e | e <;> omega
def Parted (n : Nat) (signs : List (List Bool)) : Prop := ∀ a b : Nat, a < b → b < n → ∃ r ∈ signs, r[a]? ≠ r[b]?
theorem St0 {n : Nat} {most : Int} (hm : 0 ≤ most) : StOk most n (List.replicate n 0) := by
  refine ⟨List.length_replicate, fun w hw => ?_, fun w hw => ?_⟩ <;> (have := List.eq_of_mem_replicate hw; omega)

theorem nodup_lt : ∀ (N : Nat) (l : List Nat), l.Nodup → (∀ x ∈ l, x < N) → l.length ≤ N
  | 0, l, _, h => by
    cases l with
    | nil => exact Nat.le_refl _
    | cons a r => exact absurd (h a List.mem_cons_self) (Nat.not_lt_zero _)
  | N + 1, l, hd, h => by
    have e : l.length ≤ (l.filter fun x => decide (x ≠ N)).length + 1 := by
      clear h
      induction l with
      | nil => simp
      | cons a r ih =>
        have hr := ih (List.nodup_cons.mp hd).2
        by_cases q : a = N
        · have er : (r.filter fun x => decide (x ≠ N)) = r := List.filter_eq_self.mpr fun x hx => by
            have : x ≠ N := fun e => (List.nodup_cons.mp hd).1 (by rw [q, ← e]; exact hx)
            simpa using this
          rw [List.filter_cons, if_neg (by simp [q]), er]
          simp
        · rw [List.filter_cons, if_pos (by simpa using q)]
          simp only [List.length_cons]
          omega
    have := nodup_lt N (l.filter fun x => decide (x ≠ N)) (hd.filter _) fun x hx => by
      have h1 := h x ((List.mem_filter.mp hx).1)
      have h2 := (List.mem_filter.mp hx).2
      have h3 : x ≠ N := by simpa using h2
      omega
    omega
def code3 : List Int → Nat
  | [] => 0
  | w :: r => w.toNat + 3 * code3 r
theorem code3_lt : ∀ st : List Int, (∀ w ∈ st, 0 ≤ w ∧ w ≤ 2) → code3 st < 3 ^ st.length
  | [], _ => by simp [code3]
  | w :: r, h => by
    have h1 := h w List.mem_cons_self
    have ih := code3_lt r fun x hx => h x (List.mem_cons_of_mem _ hx)
    unfold code3
    rw [List.length_cons, Nat.pow_succ]
    omega
theorem code3_inj : ∀ {a b : List Int}, a.length = b.length → (∀ w ∈ a, 0 ≤ w ∧ w ≤ 2) → (∀ w ∈ b, 0 ≤ w ∧ w ≤ 2) → code3 a = code3 b → a = b
  | [], [], _, _, _, _ => rfl
  | [], _ :: _, h, _, _, _ => by cases h
  | _ :: _, [], h, _, _, _ => by cases h
  | x :: a, y :: b, hl, ha, hb, h => by
    have h1 := ha x List.mem_cons_self
    have h2 := hb y List.mem_cons_self
    unfold code3 at h
    have e1 : x = y := by omega
    have e2 : code3 a = code3 b := by omega
    rw [e1, code3_inj (by simpa using hl) (fun w hw => ha w (List.mem_cons_of_mem _ hw)) (fun w hw => hb w (List.mem_cons_of_mem _ hw)) e2]
def codeK (k : List Int × Int) : Nat := k.2.toNat + 64 * code3 k.1
theorem few_keys {most : Int} {n : Nat} {ks : List (List Int × Int)} (hn : n ≤ 7) (hm : most ≤ 1) (nd : ks.Nodup) (h : ∀ k ∈ ks, StOk most n k.1 ∧ 0 ≤ k.2 ∧ k.2 < 64) : ks.length ≤ 1000000 := by
  have w2 : ∀ k ∈ ks, ∀ w ∈ k.1, 0 ≤ w ∧ w ≤ 2 := fun k hk w hw => ⟨(h k hk).1.lo w hw, by have := (h k hk).1.hi w hw; omega⟩
  have hd : (ks.map codeK).Nodup := by
    rw [List.nodup_iff_pairwise_ne, List.pairwise_map]
    refine List.Pairwise.imp_of_mem ?_ (List.nodup_iff_pairwise_ne.mp nd)
    intro a b ha hb hab e
    obtain ⟨s1, l1, u1⟩ := h a ha
    obtain ⟨s2, l2, u2⟩ := h b hb
    unfold codeK at e
    have e1 : a.2 = b.2 := by omega
    have e2 : code3 a.1 = code3 b.1 := by omega
    exact hab (Prod.ext (code3_inj (s1.len.trans s2.len.symm) (w2 a ha) (w2 b hb) e2) e1)
  have := nodup_lt (64 * 3 ^ 7) _ hd fun x hx => by
    obtain ⟨k, hk, rfl⟩ := List.mem_map.mp hx
    obtain ⟨s1, l1, u1⟩ := h k hk
    have c := code3_lt k.1 (w2 k hk)
    rw [s1.len] at c
    have p : 3 ^ n ≤ 3 ^ 7 := Nat.pow_le_pow_right (by decide) hn
    unfold codeK
    omega
  rw [List.length_map] at this
  have p : 64 * 3 ^ 7 = 139968 := by decide
  omega
end My

set_option Elab.async false
set_option linter.all false
set_option maxRecDepth 100000
set_option maxHeartbeats 4000000
namespace My
open PySem PySem.Spec PyProof.Rows L2
theorem left_len {names : List Str} {most : Int} : ∀ {st : List Int}, st.length = names.length → (left names most st).length = nl most st := by
  unfold left nl
  induction names with
  | nil =>
    intro st h
    cases st with
    | nil => rfl
    | cons a r => cases h
  | cons x names ih =>
    intro st h
    cases st with
    | nil => cases h
    | cons w r =>
      have ih' := ih (st := r) (by simpa using h)
      rw [List.zip_cons_cons, List.filterMap_cons, List.filter_cons]
      by_cases hw : w ≤ most
      · simp only [hw, if_true, decide_true, List.length_cons, ih']
      · simp only [hw, if_false, decide_false, Bool.false_eq_true, ih']
theorem zip_map {α β γ : Type} (f : α → β → γ) : ∀ (xs : List α) (ys : List β), (xs.zip ys).map (fun q => f q.1 q.2) = List.zipWith f xs ys
  | [], _ => by simp
  | _ :: _, [] => by simp
  | x :: xs, y :: ys => by simp [zip_map f xs ys]
def spBehind (K : PySem.W.Frag) : Sp := fun vs H Q _ => ∃ p d names most signs sa, ∃ st : List Int, ∃ i : Nat, ∃ sg ans, vs = [.ref p, .ref sa, .int i, .bl ans] ∧ HuntAt K H p d names most signs ∧ H sa = some (.tup (st.map V.int)) ∧ st.length ≤ 20 ∧ signs[i]? = some sg ∧ sg.length = st.length ∧
  ∀ q H', Same H H' → H' q = some (.tup ((aft most sg ans st).map V.int)) → Q (.ref q) H'
def spUnparted (K : PySem.W.Frag) : Sp := fun vs H Q _ => ∃ p d names most signs, vs = [.ref p] ∧ HuntAt K H p d names most signs ∧ names.length ≤ 20 ∧ signs.length ≤ 20 ∧ (∀ r ∈ signs, r.length = names.length) ∧
  ∀ v H', Same H H' → ((v = .non ∧ Parted names.length signs) ∨ ((∃ q, v = .ref q) ∧ ¬ Parted names.length signs)) → Q v H'
section
variable {P : Program} {w : World} {K : PySem.W.Frag} {mg : Str → Option Value} {base : Heap}
abbrev nBeh : List Str := ["self", "state", "index", "answer", "pairs", "wrong", "sign"]
theorem sc_behind : FnScope nBeh ["self", "state", "index", "answer"] (defScope m_behind_answer) := ⟨rfl, rfl, rfl, by decide +kernel, rfl, by decide +kernel, by decide +kernel⟩
theorem ok_behind (T : TX K mg) : Ok P w K mg base 1 ("Hunt", some "behind_answer") ["self", "state", "index", "answer"] [] (spBehind K) := by
  refine ok_def (d := dm_behind_answer) T.fd_dm_behind_answer rfl rfl sc_behind (fun _ _ _ _ _ _ us hl => match us, hl with | [_, _, _, _], _ => rfl) (fun vs H Q E h => ?_) fun cdv A outer s H vs Q E hr h => ?_
  · obtain ⟨_, _, _, _, _, _, _, _, _, _, rfl, _⟩ := h
    rfl
  · obtain ⟨p, d, names, most, signs, sa, st, i, sg, ans, rfl, hh, hsa, hl, hsg, hlen, k⟩ := h
    obtain ⟨dx, oA, sA, ras, h1, h2, h3, h4, h5⟩ := id hh
    have hi : i < ras.length := by have := (List.getElem?_eq_some_iff.mp hsg).1; omega
    have er : ras[i]? = some ras[i] := List.getElem?_eq_getElem hi
    generalize hra : ras[i] = ra at er
    have hsgl := h5 i ra sg er hsg
    refine ⟨_, pss_cons (ps_set (i := 4) sc_behind.nd rfl (Or.inl rfl) (pe_zipV (by rfl) T.f_zip (pa_cons (pv 1) (pa_cons (pe_ix ix_list (pe_fld (pv 0) rfl) (pv 2) (fun _ _ => rfl)) pa_nil))))
      (pss_one (ps_ret (pe_callTy call_tuple_of (by rfl) T.f_tuple b_tuple (pa_cons (pe_lc (own := [("wrong", 5), ("sign", 6)]) (g := gTup K 2 (gCons (gName 5) (gCons (gName 6) gNil))) (tt := tYes)
        (te := tCB _ (tCons (tOp _ (tVar 5) _) (tCons (tOp _ (tFld K (tVar 0) sMost) _) tNil))) rfl sc_behind.nd (pi_zipV (pv 4)) (blkOk_by (N := nBeh) (sc := defScope m_behind_answer) (by decide +kernel))
        (fun _ _ _ _ _ => pg_tup rfl (pgs_cons (pg_name (i := 5) sc_behind.nd rfl (Or.inl rfl)) (pgs_cons (pg_name (i := 6) sc_behind.nd rfl (Or.inl rfl)) pgs_nil))) (fun _ _ _ _ _ => pts_nil)
        (fun _ _ _ _ _ => pe_callB (call_min2 rfl) (by rfl) T.f_min b_min (pa_cons (pe_op op_add (pv 5) (pe_callTy call_int1 (by rfl) T.f_int b_int (pa_cons (pe_cmpR op_ne (pv 6) (pv 3) (nomark _)) pa_nil))) (pa_cons (pe_op op_add (pe_fld (pv 0) rfl) pe_int) pa_nil)))) pa_nil)))), ?_⟩
    refine ⟨_, rfl, _, rfl, p, CH K, dx, _, _, rfl, h1, T.cl, T.n_signs, hf_signs _ _ _ _, _, rfl, sA, _, _, .ref ra, rfl, rfl, .of h3, atI_nat (by rw [List.getElem?_map, er]; rfl), ?_⟩
    refine ⟨false, true, sa, ra, _, _, rfl, .of hsa, .of hsgl, fun z fp H2 k2 kn zat => ?_⟩
    have s2 : Same H (dropF fp H2) := fun b o e => by
      rw [dropF_out fun hb => by rw [kn b hb] at e; cases e]
      exact k2 b o e
    refine ⟨_, rfl, false, true, sa, ra, z, fp, rfl, zat, fun D hD => lc_fm (walk_zipB (p := false) (q := true) (xs := st.map V.int) (ys := sg.map V.bl) (by rw [List.length_map, List.length_map, hlen])) (fun j => ((st.zip sg)[j]?).map fun q => V.int (aft1 most ans q.1 q.2)) (by rw [List.length_map]; omega) hD
      (fun G s3 => ⟨.of (s3 _ _ (s2 _ _ hsa)), .of (s3 _ _ (s2 _ _ hsgl))⟩) (fun j x G G' hj s3 y R N kR kN => ?_) fun G s3 hDl => ?_⟩
    · obtain ⟨t, x1, x2, rfl, ht, rfl, e1, e2⟩ := y
      have e1 : (st.map V.int)[j]? = some x1 := e1
      have e2 : (sg.map V.bl)[j]? = some x2 := e2
      rw [List.getElem?_map] at e1 e2
      obtain ⟨wr, ew, rfl⟩ := Option.map_eq_some_iff.mp e1
      obtain ⟨b, eb, rfl⟩ := Option.map_eq_some_iff.mp e2
      have ez : (st.zip sg)[j]? = some (wr, b) := by rw [List.getElem?_zip_eq_some]; exact ⟨ew, eb⟩
      have s4 : Same G (upd G t (.tup [.int wr, .bl b])) := same_new ht
      refine ⟨t, _, rfl, .of upd_same, rfl, _, _, rfl, _, _, rfl, rfl, rfl, ?_⟩
      refine ⟨_, rfl, _, rfl, _, rfl, rfl, .inr ⟨_, rfl, _, _, rfl, rfl, ?_⟩⟩
      refine ⟨_, rfl, p, CH K, dx, _, _, rfl, s4 _ _ (s3 _ _ (s2 _ _ h1)), T.cl, T.n_most, hf_most _ _ _ _, _, _, rfl, rfl, _, _, rfl, kR _ _ ?_ s4⟩
      rw [ez]
      show some (V.int (aft1 most ans wr b)) = _
      have eb : (!decide (V.bl b = V.bl ans)) = (b != ans) := by rw [dec_bl]; rfl
      rw [eb]
      rfl
    · have el : (st.map V.int).length = (st.zip sg).length := by rw [List.length_map, List.length_zip, hlen, Nat.min_self]
      rw [el, fm_map] at hDl
      refine ⟨D, _, rfl, .inl ⟨.of hDl, fun l hl => k l _ ((s2.trans s3).trans (same_new hl)) ?_⟩⟩
      rw [upd_same]
      unfold aft
      rw [← zip_map, List.map_map]
      rfl
abbrev nUnp : List Str := ["self", "at", "one", "to", "row"]
theorem sc_unparted : FnScope nUnp ["self"] (defScope m_unparted) := ⟨rfl, rfl, rfl, by decide +kernel, rfl, by decide +kernel, by decide +kernel⟩
theorem ok_unparted (T : TX K mg) : Ok P w K mg base 1 ("Hunt", some "unparted") ["self"] [] (spUnparted K) := by
  refine ok_def (d := dm_unparted) T.fd_dm_unparted rfl rfl sc_unparted (fun _ _ _ _ _ _ us hl => match us, hl with | [_], _ => rfl) (fun vs H Q E h => ?_) fun cdv A outer s H vs Q E hr h => ?_
  · obtain ⟨_, _, _, _, _, rfl, _⟩ := h
    rfl
  · obtain ⟨p, d, names, most, signs, rfl, hh, hl, hsl, hrl, k⟩ := h
    obtain ⟨dx, oA, sA, ras, h1, h2, h3, h4, h5⟩ := id hh
    refine ⟨_, pss_cons (ps_for PassesOwn.never rfl (pi_enumB (by rfl) T.f_enumerate (pa_cons (pe_fld (pv 0) rfl) pa_nil)) (pg_tup rfl (pgs_cons (pg_name (i := 1) sc_unparted.nd rfl (Or.inr rfl)) (pgs_cons (pg_name (i := 2) sc_unparted.nd rfl (Or.inl rfl)) pgs_nil)))
        (pss_one (ps_for PassesOwn.never rfl (pi_range2 (by rfl) T.f_range (pa_cons (pe_op op_add (pv 1) pe_int) (pa_cons (pe_callB call_len (by rfl) T.f_len PySem.boot_len (pa_cons (pe_fld (pv 0) rfl) pa_nil)) pa_nil))) (pg_name (i := 3) sc_unparted.nd rfl (Or.inr rfl))
          (pss_one (ps_if (pt_val (pe_callB (cr_all rfl) (by rfl) T.f_all b_all (pa_cons (pe_lc (own := [("row", 4)]) (g := gName 4) (tt := tYes) (te := tOp rEq (tOp (rIxL K) (tVar 4) (tVar 1)) (tOp (rIxL K) (tVar 4) (tVar 3))) rfl sc_unparted.nd (pi_sqB (pe_fld (pv 0) rfl))
              (blkOk_by (N := nUnp) (sc := defScope m_unparted) (by decide +kernel)) (fun _ _ _ _ _ => pg_name (i := 4) sc_unparted.nd rfl (Or.inl rfl)) (fun _ _ _ _ _ => pts_nil)
              (fun _ _ _ _ _ => pe_cmpR op_eq (pe_ix ix_list (pv 4) (pv 1) (fun _ _ => rfl)) (pe_ix ix_list (pv 4) (pv 3) (fun _ _ => rfl)) (nomark _))) pa_nil)))
            (pss_one (ps_ret (pe_tup (pa_cons (pv 2) (pa_cons (pe_ix ix_list (pe_fld (pv 0) rfl) (pv 3) (fun _ _ => rfl)) pa_nil))))) pss_nil)))))
      (pss_one (ps_ret pe_non)), ?_⟩
    refine ⟨_, rfl, p, CH K, dx, _, _, rfl, h1, T.cl, T.n_ones, hf_ones _ _ _ _, true, oA, _, rfl, .of h2, for_it (walk_enumB (p := true) (xs := names.map V.str))
      (fun i σ G => ∃ v1 v2 v3 v4, σ = [some (.ref p), v1, v2, v3, v4] ∧ Same H G ∧ ∀ a b : Nat, a < i → a < b → b < names.length → ∃ r ∈ signs, r[a]? ≠ r[b]?) ⟨_, _, _, _, rfl, Same.refl H, fun a b h => absurd h (Nat.not_lt_zero _)⟩ (fun i σ G _ pr => ?_) (fun i x σ G G' hi pr y => ?_) fun σ G pr => ?_⟩
    · obtain ⟨_, _, _, _, _, s1, _⟩ := pr
      exact .of (s1 _ _ h2)
    · obtain ⟨v1, v2, v3, v4, rfl, s1, hpart⟩ := pr
      rw [List.length_map] at hi
      obtain ⟨t, x1, x2, rfl, ht, rfl, e1, e2⟩ := y
      cases e1
      have e2 : (names.map V.str)[i]? = some x2 := e2
      have s2 : Same H (upd G t (.tup [.int (i : Nat), x2])) := s1.trans (same_new ht)
      generalize hG2 : upd G t (.tup [.int (i : Nat), x2]) = G2 at s2
      refine ⟨t, _, rfl, .of (by rw [← hG2]; exact upd_same), rfl, _, _, rfl, _, _, rfl, rfl, ?_⟩
      have ejl : (((names.map V.str).length : Int) - ((i : Int) + 1)).toNat = names.length - (i + 1) := by rw [List.length_map]; omega
      refine ⟨_, rfl, _, _, rfl, rfl, _, rfl, p, CH K, dx, _, _, rfl, s2 _ _ h1, T.cl, T.n_ones, hf_ones _ _ _ _, _, _, rfl, .inl ⟨_, .of (s2 _ _ h2), rfl⟩, _, _, rfl, ⟨by omega, by omega, by rw [List.length_map]; omega, by rw [List.length_map]; omega⟩, ?_⟩
      rw [ejl]
      refine for_range (lo := (i : Int) + 1) (n := names.length - (i + 1)) (fun j σ G => ∃ v3 v4, σ = [some (.ref p), some (.int (i : Nat)), some x2, v3, v4] ∧ Same H G ∧ ∀ b : Nat, i < b → b < i + 1 + j → b < names.length → ∃ r ∈ signs, r[i]? ≠ r[b]?) ⟨_, _, rfl, s2, fun b a1 a2 => absurd a1 (by omega)⟩ (fun j σ G hj pr => ?_) fun σ G pr => ?_
      · obtain ⟨v3, v4, rfl, s3, hp2⟩ := pr
        have eto : (i : Int) + 1 + (j : Int) = ((i + 1 + j : Nat) : Int) := by omega
        rw [eto]
        generalize hto : i + 1 + j = to at hp2
        have hton : to < names.length := by omega
        refine ⟨_, rfl, p, CH K, dx, _, _, rfl, s3 _ _ h1, T.cl, T.n_signs, hf_signs _ _ _ _, true, sA, _, rfl, .of (s3 _ _ h3), fun D hD => lc_fm (walk_sqB (p := true) (xs := ras.map V.ref)) (fun q => (signs[q]?).map fun r => V.bl (decide (r[i]? = r[to]?))) (by rw [List.length_map]; omega) hD
          (fun G4 s4 => .of (s4 _ _ (s3 _ _ h3))) (fun q x G4 G5 hq s4 y R N kR kN => ?_) fun G4 s4 hDl => ?_⟩
        · obtain ⟨e5, ex⟩ := y
          subst e5
          rw [List.getElem?_map] at ex
          obtain ⟨ra, er, rfl⟩ := Option.map_eq_some_iff.mp ex
          have hqs : q < signs.length := by have := (List.getElem?_eq_some_iff.mp er).1; omega
          have es : signs[q]? = some signs[q] := List.getElem?_eq_getElem hqs
          generalize hr' : signs[q] = r at es
          have hrr := s4 _ _ (s3 _ _ (h5 q ra r er es))
          have lr := hrl r (List.mem_of_getElem? es)
          have ei : r[i]? = some (r[i]'(by omega)) := List.getElem?_eq_getElem (by omega)
          have et : r[to]? = some (r[to]'(by omega)) := List.getElem?_eq_getElem (by omega)
          generalize r[i]'(by omega) = b1 at ei
          generalize r[to]'(by omega) = b2 at et
          refine ⟨rfl, _, rfl, _, rfl, ra, _, _, .bl b1, rfl, rfl, .of hrr, atI_nat (by rw [List.getElem?_map, ei]; rfl), _, rfl, _, rfl, ra, _, _, .bl b2, rfl, rfl, .of hrr, atI_nat (by rw [List.getElem?_map, et]; rfl), rfl, kR _ _ ?_ (Same.refl _)⟩
          rw [es]
          show some (V.bl (decide (r[i]? = r[to]?))) = some (V.bl (decide (V.bl b1 = V.bl b2)))
          rw [ei, et]
          congr 2
          simp
        · have el : (ras.map V.ref).length = signs.length := by rw [List.length_map, h4]
          rw [el, fm_map] at hDl
          refine ⟨D, signs.map fun r => decide (r[i]? = r[to]?), rfl, .of (by rw [hDl, List.map_map]; rfl), _, rfl, ?_⟩
          have s5 := s3.trans s4
          by_cases hall : (signs.map fun r => decide (r[i]? = r[to]?)).all id = true
          · rw [hall]
            refine iteT ?_
            have e8 : (names.map V.str)[to]? = some (V.str (names[to]'hton)) := by rw [List.getElem?_map, List.getElem?_eq_getElem hton]; rfl
            refine ⟨_, rfl, _, rfl, p, CH K, dx, _, _, rfl, s5 _ _ h1, T.cl, T.n_ones, hf_ones _ _ _ _, _, rfl, oA, _, _, _, rfl, rfl, .of (s5 _ _ h2), atI_nat e8, by show 2 ≤ sizeLine; decide, fun q hq => ?_⟩
            refine k _ _ (s5.trans (same_new hq)) (.inr ⟨⟨q, rfl⟩, fun hp => ?_⟩)
            obtain ⟨r, hr, hne⟩ := hp i to (by omega) hton
            rw [List.all_map] at hall
            exact hne (of_decide_eq_true (List.all_eq_true.mp hall r hr))
          · have hall' : (signs.map fun r => decide (r[i]? = r[to]?)).all id = false := by simpa using hall
            rw [hall']
            refine iteF ⟨_, _, rfl, s5, fun b a1 a2 a3 => ?_⟩
            by_cases hb : b < to
            · exact hp2 b a1 (by omega) a3
            · have eb : b = to := by omega
              subst eb
              rw [List.all_map] at hall'
              obtain ⟨r, hr, hne⟩ := List.all_eq_false.mp hall'
              exact ⟨r, hr, fun q => hne (decide_eq_true q)⟩
      · obtain ⟨v3, v4, rfl, s3, hp2⟩ := pr
        refine ⟨_, _, _, _, rfl, s3, fun a b a1 a2 a3 => ?_⟩
        by_cases ha : a < i
        · exact hpart a b ha a2 a3
        · have ea : a = i := by omega
          subst ea
          exact hp2 b a2 (by omega) a3
    · obtain ⟨v1, v2, v3, v4, rfl, s1, hpart⟩ := pr
      refine k _ _ s1 (.inl ⟨rfl, fun a b a1 a2 => hpart a b (by rw [List.length_map]; omega) a1 a2⟩)
end
end My

set_option linter.all false
namespace My
def phi (most : Int) : List Int → Int
  | [] => 0
  | w :: r => (most + 1 - w) + phi most r
theorem phi_nn {most : Int} : ∀ {st : List Int}, (∀ w ∈ st, w ≤ most + 1) → 0 ≤ phi most st
  | [], _ => Int.le_refl _
  | w :: r, h => by
    have h1 := h w List.mem_cons_self
    have ih := phi_nn (st := r) fun x hx => h x (List.mem_cons_of_mem _ hx)
    unfold phi
    omega
theorem nl_cons (most w : Int) (r : List Int) : nl most (w :: r) = (if w ≤ most then 1 else 0) + nl most r := by
  unfold nl
  rw [List.filter_cons]
  by_cases h : w ≤ most
  · simp only [h, decide_true, if_true, List.length_cons]; omega
  · simp only [h, decide_false, if_false, Bool.false_eq_true]; omega
theorem phi_nl {most : Int} : ∀ {st : List Int}, (∀ w ∈ st, w ≤ most + 1) → (nl most st : Int) ≤ phi most st
  | [], _ => Int.le_refl _
  | w :: r, h => by
    have h1 := h w List.mem_cons_self
    have ih := phi_nl (st := r) fun x hx => h x (List.mem_cons_of_mem _ hx)
    rw [nl_cons]
    unfold phi
    split <;> omega
theorem phi_aft {most : Int} {ans : Bool} : ∀ {st : List Int} {sg : List Bool}, (∀ w ∈ st, w ≤ most + 1) → phi most (aft most sg ans st) ≤ phi most st
  | [], sg, _ => by cases sg <;> exact Int.le_refl _
  | w :: r, [], h => by
    have : aft most [] ans (w :: r) = [] := by unfold aft; rfl
    rw [this]
    exact phi_nn h
  | w :: r, s :: sg, h => by
    have h1 := h w List.mem_cons_self
    have ih := phi_aft (ans := ans) (st := r) (sg := sg) fun x hx => h x (List.mem_cons_of_mem _ hx)
    have e : aft most (s :: sg) ans (w :: r) = aft1 most ans w s :: aft most sg ans r := by unfold aft; rfl
    rw [e]
    have : w ≤ aft1 most ans w s := by unfold aft1; split <;> split <;> omega
    unfold phi
    omega
theorem phi_less {most : Int} {ans : Bool} : ∀ {st : List Int} {sg : List Bool} {a : Nat} {w : Int} {s : Bool}, (∀ w ∈ st, w ≤ most + 1) → st[a]? = some w → w ≤ most → sg[a]? = some s → s ≠ ans → phi most (aft most sg ans st) + 1 ≤ phi most st
  | [], _, _, _, _, _, h, _, _, _ => by simp at h
  | w :: r, [], _, _, _, _, _, _, h, _ => by simp at h
  | x :: r, y :: sg, 0, w, s, h, e1, hw, e2, hs => by
    have e1 : x = w := by simpa using e1
    have e2 : y = s := by simpa using e2
    subst e1 e2
    have ih := phi_aft (ans := ans) (st := r) (sg := sg) fun x hx => h x (List.mem_cons_of_mem _ hx)
    have e : aft most (y :: sg) ans (x :: r) = aft1 most ans x y :: aft most sg ans r := by unfold aft; rfl
    rw [e]
    have : x + 1 ≤ aft1 most ans x y := by
      unfold aft1
      have hb : (y != ans) = true := by simpa using hs
      rw [hb]
      simp only [if_true]
      split <;> omega
    unfold phi
    omega
  | x :: r, y :: sg, a + 1, w, s, h, e1, hw, e2, hs => by
    have h1 := h x List.mem_cons_self
    have ih := phi_less (ans := ans) (st := r) (sg := sg) (a := a) (w := w) (s := s) (fun x hx => h x (List.mem_cons_of_mem _ hx)) (by simpa using e1) hw (by simpa using e2) hs
    have e : aft most (y :: sg) ans (x :: r) = aft1 most ans x y :: aft most sg ans r := by unfold aft; rfl
    rw [e]
    have : x ≤ aft1 most ans x y := by unfold aft1; split <;> split <;> omega
    unfold phi
    omega
theorem one_left {most : Int} : ∀ {st : List Int}, 0 < nl most st → ∃ (b : Nat) (w : Int), st[b]? = some w ∧ w ≤ most
  | [], h => absurd h (Nat.lt_irrefl _)
  | x :: r, h => by
    by_cases hx : x ≤ most
    · exact ⟨0, x, rfl, hx⟩
    · rw [nl_cons, if_neg hx] at h
      obtain ⟨b, w, e, hw⟩ := one_left (most := most) (st := r) (by omega)
      exact ⟨b + 1, w, by simpa using e, hw⟩
theorem two_left {most : Int} : ∀ {st : List Int}, ¬ nl most st < 2 → ∃ (a b : Nat) (wa wb : Int), a < b ∧ st[a]? = some wa ∧ wa ≤ most ∧ st[b]? = some wb ∧ wb ≤ most
  | [], h => absurd (show nl most [] < 2 by show 0 < 2; decide) h
  | x :: r, h => by
    rw [nl_cons] at h
    by_cases hx : x ≤ most
    · rw [if_pos hx] at h
      obtain ⟨b, w, e, hw⟩ := one_left (most := most) (st := r) (by omega)
      exact ⟨0, b + 1, x, w, by omega, rfl, hx, by simpa using e, hw⟩
    · rw [if_neg hx] at h
      obtain ⟨a, b, wa, wb, h1, h2, h3, h4, h5⟩ := two_left (most := most) (st := r) (by omega)
      exact ⟨a + 1, b + 1, wa, wb, by omega, by simpa using h2, h3, by simpa using h4, h5⟩
theorem En_phi {most : Int} {n : Nat} {signs : List (List Bool)} (hm : 0 ≤ most) (hp : Parted n signs) (rl : ∀ r ∈ signs, r.length = n) : ∀ (m : Nat) (st : List Int), StOk most n st → phi most st ≤ m + 1 → En most signs m st = true
  | 0, st, hs, h => by
    have := phi_nl hs.hi
    exact En_small (by omega) 0
  | m + 1, st, hs, h => by
    by_cases hn : nl most st < 2
    · exact En_small hn _
    · rw [En_big hn, List.any_eq_true]
      obtain ⟨a, b, wa, wb, h1, h2, h3, h4, h5⟩ := two_left hn
      have hb : b < n := by rw [← hs.len]; exact (List.getElem?_eq_some_iff.mp h4).1
      obtain ⟨r, hr, hne⟩ := hp a b h1 hb
      have hl := rl r hr
      have ea : r[a]? = some (r[a]'(by omega)) := List.getElem?_eq_getElem (by omega)
      have eb : r[b]? = some (r[b]'(by omega)) := List.getElem?_eq_getElem (by omega)
      generalize r[a]'(by omega) = sa at ea
      generalize r[b]'(by omega) = sb at eb
      have hab : sa ≠ sb := fun z => hne (by rw [ea, eb, z])
      have both : ∀ ans : Bool, En most signs m (aft most r ans st) = true := fun ans => by
        refine En_phi hm hp rl m _ (aft_ok hm hs hl) ?_
        by_cases hq : sa = ans
        · have := phi_less (ans := ans) hs.hi h4 h5 eb (fun z => hab (hq.trans z.symm))
          omega
        · have := phi_less (ans := ans) hs.hi h2 h3 ea hq
          omega
      exact ⟨r, hr, by unfold Rt; rw [both true, both false]; rfl⟩
theorem phi_rep (most : Int) : ∀ n : Nat, phi most (List.replicate n 0) = (most + 1) * n
  | 0 => by simp [phi]
  | n + 1 => by
    rw [List.replicate_succ]
    unfold phi
    rw [phi_rep most n]
    have : ((n + 1 : Nat) : Int) = (n : Int) + 1 := by omega
    rw [this, Int.mul_add]
    omega
abbrev st0 (n : Nat) : List Int := List.replicate n 0
theorem En_top {most : Int} {n : Nat} {signs : List (List Bool)} (wf : WF n most signs) (hp : Parted n signs) {top : Nat} (ht : (top : Int) = (1 + 2 * most) * n) : En most signs top (st0 n) = true := by
  refine En_phi wf.nn hp wf.rl top _ (St0 wf.nn) ?_
  rw [phi_rep]
  rcases wf.mo with e | e <;> subst e <;> omega
theorem En_mono {most : Int} {signs : List (List Bool)} : ∀ {m : Nat} {st : List Int}, En most signs m st = true → En most signs (m + 1) st = true
  | 0, st, h => En_small (of_decide_eq_true h) 1
  | m + 1, st, h => by
    by_cases hn : nl most st < 2
    · exact En_small hn _
    · rw [En_big hn, List.any_eq_true] at h ⊢
      obtain ⟨r, hr, h2⟩ := h
      refine ⟨r, hr, ?_⟩
      unfold Rt at h2 ⊢
      rw [Bool.and_eq_true] at h2 ⊢
      exact ⟨En_mono h2.1, En_mono h2.2⟩
theorem En_le {most : Int} {signs : List (List Bool)} {st : List Int} {m k : Nat} (h : m ≤ k) (e : En most signs m st = true) : En most signs k st = true := by
  induction h with
  | refl => exact e
  | step _ ih => exact En_mono ih
structure Least (most : Int) (signs : List (List Bool)) (n m : Nat) : Prop where
  yes : En most signs m (st0 n) = true
  no : ∀ j < m, En most signs j (st0 n) = false
theorem Least.one {most : Int} {signs : List (List Bool)} {n m k : Nat} (a : Least most signs n m) (b : Least most signs n k) : m = k := by
  rcases Nat.lt_trichotomy m k with h | h | h
  · have := b.no m h; rw [a.yes] at this; cases this
  · exact h
  · have := a.no k h; rw [b.yes] at this; cases this
def clampL (most : Int) (st : List Int) : List Int := st.map fun w => if most + 1 < w then most + 1 else w
def raw (sg : List Bool) (ans : Bool) (st : List Int) : List Int := List.zipWith (fun w s => w + (if s != ans then 1 else 0)) st sg
theorem clamp_raw {most : Int} {ans : Bool} : ∀ (st : List Int) (sg : List Bool), clampL most (raw sg ans st) = aft most sg ans (clampL most st)
  | [], sg => by cases sg <;> rfl
  | w :: r, [] => rfl
  | w :: r, s :: sg => by
    have ih := clamp_raw (most := most) (ans := ans) r sg
    show (if most + 1 < w + (if s != ans then 1 else 0) then most + 1 else w + (if s != ans then 1 else 0)) :: clampL most (raw sg ans r) = aft1 most ans (if most + 1 < w then most + 1 else w) s :: aft most sg ans (clampL most r)
    rw [ih]
    congr 1
    unfold aft1
    (repeat' split) <;> omega
theorem nl_clamp {most : Int} : ∀ st : List Int, nl most (clampL most st) = nl most st
  | [] => rfl
  | w :: r => by
    show nl most ((if most + 1 < w then most + 1 else w) :: clampL most r) = _
    rw [nl_cons, nl_cons, nl_clamp r]
    congr 1
    (repeat' split) <;> omega
theorem clamp_len {most : Int} (st : List Int) : (clampL most st).length = st.length := List.length_map _
theorem raw_len {sg : List Bool} {ans : Bool} {st : List Int} (h : sg.length = st.length) : (raw sg ans st).length = st.length := by
  unfold raw
  rw [List.length_zipWith, h, Nat.min_self]
theorem raw_nn {sg : List Bool} {ans : Bool} {st : List Int} (h : ∀ w ∈ st, 0 ≤ w) : ∀ w ∈ raw sg ans st, 0 ≤ w := fun w hw => by
  obtain ⟨x, hx, y, hy, rfl⟩ := mem_zipWith hw
  have := h x hx
  split <;> omega
theorem raw_hi {sg : List Bool} {ans : Bool} {st : List Int} {k : Int} (h : ∀ w ∈ st, w ≤ k) : ∀ w ∈ raw sg ans st, w ≤ k + 1 := fun w hw => by
  obtain ⟨x, hx, y, hy, rfl⟩ := mem_zipWith hw
  have := h x hx
  split <;> omega
theorem clamp_ok {most : Int} {n : Nat} {st : List Int} (hm : 0 ≤ most) (hl : st.length = n) (h : ∀ w ∈ st, 0 ≤ w) : StOk most n (clampL most st) := by
  refine ⟨(clamp_len st).trans hl, fun w hw => ?_, fun w hw => ?_⟩
  · obtain ⟨x, hx, rfl⟩ := List.mem_map.mp hw
    have := h x hx
    show (0 : Int) ≤ if most + 1 < x then most + 1 else x
    split <;> omega
  · obtain ⟨x, hx, rfl⟩ := List.mem_map.mp hw
    show (if most + 1 < x then most + 1 else x) ≤ most + 1
    split <;> omega
theorem clamp_id {most : Int} {st : List Int} (h : ∀ w ∈ st, w ≤ most + 1) : clampL most st = st := by
  unfold clampL
  refine (List.map_congr_left fun w hw => ?_).trans (List.map_id st)
  have := h w hw
  show (if most + 1 < w then most + 1 else w) = w
  rw [if_neg (by omega)]
theorem clamp_st0 {most : Int} {n : Nat} (hm : 0 ≤ most) : clampL most (st0 n) = st0 n := clamp_id fun w hw => by
  have := List.eq_of_mem_replicate hw
  omega
end My

set_option linter.all false
namespace My
open PySem
inductive Tr where
  | non
  | nm (s : Str)
  | nd (i : Nat) (a b : Tr)
def height : Tr → Nat
  | .non => 0
  | .nm _ => 0
  | .nd _ a b => 1 + max (height a) (height b)
def Fits (names : List Str) (most : Int) (signs : List (List Bool)) : List Int → Tr → Prop
  | st, .non => left names most st = []
  | st, .nm s => left names most st = [s]
  | st, .nd i a b => ∃ sg, signs[i]? = some sg ∧ Fits names most signs (aft most sg true st) a ∧ Fits names most signs (aft most sg false st) b
def rtAt (most : Int) (signs : List (List Bool)) (m : Nat) (st : List Int) (i : Nat) : Bool := match signs[i]? with
  | some sg => Rt most signs m st sg
  | none => false
def rights (most : Int) (signs : List (List Bool)) (m : Nat) (st : List Int) : List Nat := (List.range signs.length).filter (rtAt most signs m st)
def fR (most : Int) (signs : List (List Bool)) (m : Nat) (st : List Int) : Nat := (rights most signs m st).headD 0
def leafOf : List Str → Tr
  | [] => .non
  | x :: _ => .nm x
def treeOf (names : List Str) (most : Int) (signs : List (List Bool)) : Nat → List Int → Tr
  | 0, st => leafOf (left names most st)
  | m + 1, st => if nl most st < 2 then leafOf (left names most st) else
    .nd (fR most signs m st) (treeOf names most signs m (aft most (signs.getD (fR most signs m st) []) true st)) (treeOf names most signs m (aft most (signs.getD (fR most signs m st) []) false st))
theorem fits_leaf {names : List Str} {most : Int} {signs : List (List Bool)} {st : List Int} (h : (left names most st).length < 2) : Fits names most signs st (leafOf (left names most st)) := by
  generalize e : left names most st = l at h
  match l, h with
  | [], _ => exact e
  | [x], _ => exact e
  | _ :: _ :: _, h => exact absurd h (by simp only [List.length_cons]; omega)
theorem tree_small {names : List Str} {most : Int} {signs : List (List Bool)} {st : List Int} (h : nl most st < 2) : ∀ m, treeOf names most signs m st = leafOf (left names most st)
  | 0 => rfl
  | m + 1 => by unfold treeOf; rw [if_pos h]
theorem rights_ne {most : Int} {signs : List (List Bool)} {m : Nat} {st : List Int} (h : ¬ nl most st < 2) (e : En most signs (m + 1) st = true) : ∃ i r, rights most signs m st = i :: r := by
  rw [En_big h, List.any_eq_true] at e
  obtain ⟨sg, hs, hr⟩ := e
  obtain ⟨i, hi⟩ := List.mem_iff_getElem?.mp hs
  have : i ∈ rights most signs m st := List.mem_filter.mpr ⟨List.mem_range.mpr (List.getElem?_eq_some_iff.mp hi).1, by unfold rtAt; rw [hi]; exact hr⟩
  cases q : rights most signs m st with
  | nil => rw [q] at this; cases this
  | cons i r => exact ⟨i, r, rfl⟩
theorem fR_right {most : Int} {signs : List (List Bool)} {m : Nat} {st : List Int} (h : ¬ nl most st < 2) (e : En most signs (m + 1) st = true) : ∃ sg, signs[fR most signs m st]? = some sg ∧ signs.getD (fR most signs m st) [] = sg ∧ En most signs m (aft most sg true st) = true ∧ En most signs m (aft most sg false st) = true := by
  obtain ⟨i, r, q⟩ := rights_ne h e
  have hi : i ∈ rights most signs m st := by rw [q]; exact List.mem_cons_self
  have e1 : fR most signs m st = i := by unfold fR; rw [q]; rfl
  obtain ⟨h1, h2⟩ := List.mem_filter.mp hi
  unfold rtAt at h2
  cases e2 : signs[i]? with
  | none => rw [e2] at h2; cases h2
  | some sg =>
    rw [e2] at h2
    have h2 : Rt most signs m st sg = true := h2
    unfold Rt at h2
    rw [Bool.and_eq_true] at h2
    exact ⟨sg, by rw [e1]; exact e2, by rw [e1, List.getD_eq_getElem?_getD, e2]; rfl, h2.1, h2.2⟩
theorem tree_big {names : List Str} {most : Int} {signs : List (List Bool)} {m : Nat} {st : List Int} (h : ¬ nl most st < 2) {sg : List Bool} (e : signs.getD (fR most signs m st) [] = sg) :
    treeOf names most signs (m + 1) st = .nd (fR most signs m st) (treeOf names most signs m (aft most sg true st)) (treeOf names most signs m (aft most sg false st)) := by
  conv => lhs; unfold treeOf
  rw [if_neg h, e]
theorem fits_treeOf {names : List Str} {most : Int} {signs : List (List Bool)} (rl : ∀ r ∈ signs, r.length = names.length) : ∀ (m : Nat) (st : List Int), st.length = names.length → En most signs m st = true → Fits names most signs st (treeOf names most signs m st)
  | 0, st, hl, h => fits_leaf (by rw [left_len hl]; exact of_decide_eq_true h)
  | m + 1, st, hl, h => by
    by_cases hn : nl most st < 2
    · rw [tree_small hn]; exact fits_leaf (by rw [left_len hl]; exact hn)
    · obtain ⟨sg, e1, e2, e3, e4⟩ := fR_right hn h
      rw [tree_big hn e2]
      have hr := rl sg (List.mem_of_getElem? e1)
      exact ⟨sg, e1, fits_treeOf rl m _ (by rw [aft_len (by rw [hr, hl])]; exact hl) e3, fits_treeOf rl m _ (by rw [aft_len (by rw [hr, hl])]; exact hl) e4⟩
theorem height_leaf (l : List Str) : height (leafOf l) = 0 := by cases l <;> rfl
theorem height_treeOf {names : List Str} {most : Int} {signs : List (List Bool)} : ∀ (m : Nat) (st : List Int), height (treeOf names most signs m st) ≤ m
  | 0, st => by unfold treeOf; rw [height_leaf]; exact Nat.le_refl _
  | m + 1, st => by
    by_cases hn : nl most st < 2
    · rw [tree_small hn, height_leaf]; omega
    · rw [tree_big hn rfl]
      have h1 := height_treeOf (names := names) (most := most) (signs := signs) m (aft most (signs.getD (fR most signs m st) []) true st)
      have h2 := height_treeOf (names := names) (most := most) (signs := signs) m (aft most (signs.getD (fR most signs m st) []) false st)
      show 1 + max _ _ ≤ m + 1
      omega
theorem En_fits {names : List Str} {most : Int} {signs : List (List Bool)} (rl : ∀ r ∈ signs, r.length = names.length) : ∀ (t : Tr) (st : List Int), st.length = names.length → Fits names most signs st t → En most signs (height t) st = true
  | .non, st, hl, h => En_small (by rw [← left_len hl, show left names most st = [] from h]; decide) _
  | .nm s, st, hl, h => En_small (by rw [← left_len hl, show left names most st = [s] from h]; exact Nat.lt_succ_self 1) _
  | .nd i a b, st, hl, h => by
    obtain ⟨sg, e1, h1, h2⟩ := h
    have hr := rl sg (List.mem_of_getElem? e1)
    have l1 : ∀ ans, (aft most sg ans st).length = names.length := fun ans => by rw [aft_len (by rw [hr, hl])]; exact hl
    have i1 := En_le (k := max (height a) (height b)) (Nat.le_max_left _ _) (En_fits rl a _ (l1 true) h1)
    have i2 := En_le (k := max (height a) (height b)) (Nat.le_max_right _ _) (En_fits rl b _ (l1 false) h2)
    have e : height (.nd i a b) = max (height a) (height b) + 1 := by show 1 + max _ _ = _; omega
    rw [e]
    by_cases hn : nl most st < 2
    · exact En_small hn _
    · rw [En_big hn, List.any_eq_true]
      exact ⟨sg, List.mem_of_getElem? e1, by unfold Rt; rw [i1, i2]; rfl⟩
theorem height_least {names : List Str} {most : Int} {signs : List (List Bool)} {m : Nat} (rl : ∀ r ∈ signs, r.length = names.length) (h : Least most signs names.length m) : height (treeOf names most signs m (st0 names.length)) = m := by
  have hl : (st0 names.length).length = names.length := List.length_replicate
  have h1 := height_treeOf (names := names) (most := most) (signs := signs) m (st0 names.length)
  have h2 := En_fits rl _ _ hl (fits_treeOf rl m _ hl h.yes)
  rcases Nat.lt_or_ge (height (treeOf names most signs m (st0 names.length))) m with q | q
  · have := h.no _ q
    rw [h2] at this
    cases this
  · omega
end My

set_option Elab.async false
set_option linter.all false
set_option maxRecDepth 100000
set_option maxHeartbeats 4000000
namespace My
open PySem PySem.Spec PyProof.Rows L2
def KeyOk (most : Int) (signs : List (List Bool)) (n : Nat) (x : NE) : Prop := ∃ m : Nat, x.1.2 = (m : Int) ∧ m < 64 ∧ StOk most n x.1.1 ∧ x.2.2 = En most signs m x.1.1
def Known (P : Program) (w : World) (H : Hp) (d : Addr) (most : Int) (signs : List (List Bool)) (n : Nat) : Prop := ∃ xs, DN P w H d xs ∧ ∀ x ∈ xs, KeyOk most signs n x
section
variable {P : Program} {w : World} {H H' : Hp} {d : Addr} {most : Int} {signs : List (List Bool)} {n : Nat}
theorem Known.ext (h : Known P w H d most signs n) : ∃ φ, H d = some (.ext φ) := let ⟨_, a, _⟩ := h; ⟨_, a.ob⟩
theorem Known.keep (h : Known P w H d most signs n) (k : Same H H') : Known P w H' d most signs n := by
  obtain ⟨xs, a, b⟩ := h
  exact ⟨xs, a.keep ((k _ _ a.ob).trans a.ob.symm) fun c ys e => k _ _ e, b⟩
theorem Known.up {D : Addr} {ys : List V} {o : HO} (h : Known P w H d most signs n) (hD : H D = some (.lst ys)) : Known P w (upd H D o) d most signs n := by
  obtain ⟨xs, a, b⟩ := h
  have nd : d ≠ D := ne_of a.ob hD (fun z => nomatch z)
  exact ⟨xs, a.keep (upd_ne nd) fun c zs e => by rw [upd_ne (ne_of e hD (fun z => nomatch z))]; exact e, b⟩
theorem known_few {xs : List NE} (hn : n ≤ 7) (hm : most = 0 ∨ most = 1) (a : DN P w H d xs) (b : ∀ x ∈ xs, KeyOk most signs n x) : xs.length ≤ 1000000 := by
  have := few_keys (most := most) (n := n) (ks := xs.map (·.1)) hn (by rcases hm with e | e <;> omega) a.nd fun k hk => by
    obtain ⟨x, hx, rfl⟩ := List.mem_map.mp hk
    obtain ⟨m, e1, e2, e3, _⟩ := b x hx
    exact ⟨e3, by rw [e1]; omega, by rw [e1]; omega⟩
  rwa [List.length_map] at this
theorem known_val {xs : List NE} {st : List Int} {m : Nat} {v : Bool} (b : ∀ x ∈ xs, KeyOk most signs n x) (e : valN xs (st, (m : Int)) = some v) : v = En most signs m st := by
  obtain ⟨a, ha⟩ := valN_mem e
  obtain ⟨m', e1, _, _, e2⟩ := b _ ha
  have : m = m' := by
    have e1 : (m : Int) = (m' : Int) := e1
    omega
  subst this
  exact e2
theorem known_put {xs : List NE} {q : Addr} {st : List Int} {m : Nat} {v : Bool} (b : ∀ x ∈ xs, KeyOk most signs n x) (hm : m < 64) (hs : StOk most n st) (hv : v = En most signs m st) : ∀ x ∈ putN xs (st, (m : Int)) q v, KeyOk most signs n x := fun x hx => by
  rcases mem_putN hx with ⟨e1, e2, _⟩ | ⟨_, e⟩
  · exact ⟨m, by rw [e1], hm, by rw [e1]; exact hs, by rw [e2, e1]; exact hv⟩
  · exact b x e
end
theorem key_at {H : Hp} {q sa : Addr} {st : List Int} {m : Int} (h1 : H q = some (.tup [.ref sa, .int m])) (h2 : H sa = some (.tup (st.map V.int))) : KeyAt H q (st, m) := ⟨sa, h1, h2⟩
section
variable {o : Addr} {m : Int} {s d : Addr}
theorem hn_is_enough : (hf o m s d).lookup ("is_enough" : Str) = none := hf_no _ _ _ _ (by decide +kernel) (by decide +kernel) (by decide +kernel) (by decide +kernel)
theorem hn_is_right : (hf o m s d).lookup ("is_right" : Str) = none := hf_no _ _ _ _ (by decide +kernel) (by decide +kernel) (by decide +kernel) (by decide +kernel)
theorem hn_behind : (hf o m s d).lookup ("behind_answer" : Str) = none := hf_no _ _ _ _ (by decide +kernel) (by decide +kernel) (by decide +kernel) (by decide +kernel)
theorem hn_left : (hf o m s d).lookup ("left_ones" : Str) = none := hf_no _ _ _ _ (by decide +kernel) (by decide +kernel) (by decide +kernel) (by decide +kernel)
theorem hn_begun : (hf o m s d).lookup ("begun" : Str) = none := hf_no _ _ _ _ (by decide +kernel) (by decide +kernel) (by decide +kernel) (by decide +kernel)
theorem hn_unparted : (hf o m s d).lookup ("unparted" : Str) = none := hf_no _ _ _ _ (by decide +kernel) (by decide +kernel) (by decide +kernel) (by decide +kernel)
theorem hn_fewest : (hf o m s d).lookup ("fewest_from" : Str) = none := hf_no _ _ _ _ (by decide +kernel) (by decide +kernel) (by decide +kernel) (by decide +kernel)
end
section
variable (P : Program) (w : World) (K : PySem.W.Frag) (names : List Str) (most : Int) (signs : List (List Bool))
def spEnough (M : Nat) : Sp := fun vs H Q _ => ∃ m : Nat, m ≤ M ∧ ∃ p d sa, ∃ st : List Int, vs = [.ref p, .ref sa, .int (m : Nat)] ∧ HuntAt K H p d names most signs ∧ Known P w H d most signs names.length ∧ H sa = some (.tup (st.map V.int)) ∧ StOk most names.length st ∧
  ∀ H', But d H H' → Known P w H' d most signs names.length → Q (.bl (En most signs m st)) H'
def spRight (M : Nat) : Sp := fun vs H Q _ => ∃ m : Nat, m ≤ M ∧ ∃ p d sa, ∃ st : List Int, ∃ i : Nat, ∃ sg, vs = [.ref p, .ref sa, .int (i : Nat), .int ((m + 1 : Nat) : Int)] ∧ HuntAt K H p d names most signs ∧ Known P w H d most signs names.length ∧ H sa = some (.tup (st.map V.int)) ∧ StOk most names.length st ∧
  signs[i]? = some sg ∧ ∀ H', But d H H' → Known P w H' d most signs names.length → Q (.bl (Rt most signs m st sg)) H'
end
section
variable {P : Program} {w : World} {K : PySem.W.Frag} {mg : Str → Option Value} {base : Heap} {names : List Str} {most : Int} {signs : List (List Bool)}
theorem sc_right : FnScope ["self", "state", "index", "many"] ["self", "state", "index", "many"] (defScope m_is_right) := ⟨rfl, rfl, rfl, by decide +kernel, rfl, by decide +kernel, by decide +kernel⟩
theorem ok_right (T : TX K mg) (wf : WF names.length most signs) (M : Nat) (OE : Ok P w K mg base (2 * M + 2) ("Hunt", some "is_enough") ["self", "state", "many"] [] (spEnough P w K names most signs M)) :
    Ok P w K mg base (2 * M + 2 + 1) ("Hunt", some "is_right") ["self", "state", "index", "many"] [] (spRight P w K names most signs M) := by
  refine ok_def (d := dm_is_right) T.fd_dm_is_right rfl rfl sc_right (fun _ _ _ _ _ _ us hl => match us, hl with | [_, _, _, _], _ => rfl) (fun vs H Q E h => ?_) fun cdv A outer s H vs Q E hr h => ?_
  · obtain ⟨_, _, _, _, _, _, _, _, rfl, _⟩ := h
    rfl
  · obtain ⟨m, hmM, p, d, sa, st, i, sg, rfl, hh, hk, hsa, hst, hsg, k⟩ := h
    obtain ⟨dx, oA, sA, ras, h1, h2, h3, h4, h5⟩ := id hh
    obtain ⟨φ, hd⟩ := hk.ext
    have sgl := wf.rl sg (List.mem_of_getElem? hsg)
    have n7 := wf.n7
    have em : ((m + 1 : Nat) : Int) - 1 = (m : Int) := by omega
    refine ⟨_, pss_cons (ps_if (pt_not (pt_val (pe_m OE hr (Nat.le_refl _) T.cl T.m_is_enough (pv 0) (pa_cons (pe_m (ok_behind T) hr (by omega) T.cl T.m_behind_answer (pv 0) (pa_cons (pv 1) (pa_cons (pv 2) (pa_cons pe_bl pa_nil)))) (pa_cons (pe_op op_sub (pv 3) pe_int) pa_nil)))))
        (pss_one (ps_ret pe_bl)) pss_nil)
      (pss_one (ps_ret (pe_m OE hr (Nat.le_refl _) T.cl T.m_is_enough (pv 0) (pa_cons (pe_m (ok_behind T) hr (by omega) T.cl T.m_behind_answer (pv 0) (pa_cons (pv 1) (pa_cons (pv 2) (pa_cons pe_bl pa_nil)))) (pa_cons (pe_op op_sub (pv 3) pe_int) pa_nil))))), ?_⟩
    refine ⟨_, rfl, p, dx, _, rfl, h1, hn_is_enough, _, rfl, p, dx, _, rfl, h1, hn_behind, _, rfl, _, rfl, ?_⟩
    refine ⟨p, d, names, most, signs, sa, st, i, sg, true, rfl, hh, hsa, by rw [hst.len]; omega, hsg, by rw [sgl, hst.len], fun q1 H1 s1 e1 => ?_⟩
    refine ⟨_, rfl, _, _, rfl, rfl, m, hmM, p, d, q1, _, by show [V.ref p, V.ref q1, V.int (((m + 1 : Nat) : Int) - 1)] = _; rw [em], hh.keep s1, hk.keep s1, e1, aft_ok wf.nn hst sgl, fun H2 b2 k2 => ⟨_, rfl, ?_⟩⟩
    have bb : But d H H2 := (But.of s1).trans b2
    by_cases hE : En most signs m (aft most sg true st) = true
    · rw [hE]
      refine iteF ?_
      have hh2 := hh.but hd bb
      have hsa2 := bb _ _ hsa (ne_of hsa hd (fun z => nomatch z))
      have h12 := bb _ _ h1 (ne_of h1 hd (fun z => nomatch z))
      refine ⟨_, rfl, p, dx, _, rfl, h12, hn_is_enough, _, rfl, p, dx, _, rfl, h12, hn_behind, _, rfl, _, rfl, ?_⟩
      refine ⟨p, d, names, most, signs, sa, st, i, sg, false, rfl, hh2, hsa2, by rw [hst.len]; omega, hsg, by rw [sgl, hst.len], fun q2 H3 s3 e3 => ?_⟩
      refine ⟨_, rfl, _, _, rfl, rfl, m, hmM, p, d, q2, _, by show [V.ref p, V.ref q2, V.int (((m + 1 : Nat) : Int) - 1)] = _; rw [em], hh2.keep s3, k2.keep s3, e3, aft_ok wf.nn hst sgl, fun H4 b4 k4 => ?_⟩
      have e : Rt most signs m st sg = En most signs m (aft most sg false st) := by unfold Rt; rw [hE, Bool.true_and]
      have := k H4 ((bb.trans (But.of s3)).trans b4) k4
      rw [e] at this
      exact this
    · have hE' : En most signs m (aft most sg true st) = false := by simpa using hE
      rw [hE']
      refine iteT ?_
      have e : Rt most signs m st sg = false := by unfold Rt; rw [hE', Bool.false_and]
      have := k H2 bb k2
      rw [e] at this
      exact this
theorem sc_enough : FnScope ["self", "state", "many", "index"] ["self", "state", "many"] (defScope m_is_enough) := ⟨rfl, rfl, rfl, by decide +kernel, rfl, by decide +kernel, by decide +kernel⟩
theorem ok_enough0 (T : TX K mg) (wf : WF names.length most signs) : Ok P w K mg base (2 * 0 + 2) ("Hunt", some "is_enough") ["self", "state", "many"] [] (spEnough P w K names most signs 0) := by
  refine ok_def (d := dm_is_enough) T.fd_dm_is_enough rfl rfl sc_enough (fun _ _ _ _ _ _ us hl => match us, hl with | [_, _, _], _ => rfl) (fun vs H Q E h => ?_) fun cdv A outer s H vs Q E hr h => ?_
  · obtain ⟨_, _, _, _, _, _, rfl, _⟩ := h
    rfl
  · obtain ⟨m, hm0, p, d, sa, st, rfl, hh, hk, hsa, hst, k⟩ := h
    cases Nat.le_zero.mp hm0
    obtain ⟨dx, oA, sA, ras, h1, h2, h3, h4, h5⟩ := id hh
    have n7 := wf.n7
    refine ⟨_, pss_cons (ps_if (pt_cmpR op_lt (pe_callB call_len (by rfl) T.f_len PySem.boot_len (pa_cons (pe_m (ok_left T) hr (by decide) T.cl T.m_left_ones (pv 0) (pa_cons (pv 1) pa_nil)) pa_nil)) pe_int (nomark _)) (pss_one (ps_ret pe_bl)) pss_nil)
      (pss_cons (ps_if (pt_cmpR op_eq (pv 2) pe_int (nomark _)) (pss_one (ps_ret pe_bl)) pss_nil) pss_never), ?_⟩
    refine ⟨_, rfl, p, dx, _, rfl, h1, hn_left, _, rfl, p, d, names, most, signs, sa, st, rfl, hh, by omega, hsa, hst.len, fun l H1 hl s1 e1 => ?_⟩
    refine ⟨_, _, rfl, .inl ⟨_, .of e1, rfl⟩, _, _, rfl, rfl, _, rfl, ?_⟩
    rw [List.length_map, left_len hst.len]
    have kk := k H1 (But.of s1) (hk.keep s1)
    by_cases hn : nl most st < 2
    · rw [decide_eq_true (show ((nl most st : Nat) : Int) < 2 by omega)]
      rw [En_small hn] at kk
      exact iteT kk
    · rw [decide_eq_false (show ¬ ((nl most st : Nat) : Int) < 2 by omega)]
      rw [En_zero hn] at kk
      exact iteF ⟨_, rfl, rfl, _, rfl, iteT kk⟩
theorem ok_enoughS (T : TX K mg) (wf : WF names.length most signs) (M : Nat) (hM : M + 1 < 64) (OR : Ok P w K mg base (2 * M + 2 + 1) ("Hunt", some "is_right") ["self", "state", "index", "many"] [] (spRight P w K names most signs M)) :
    Ok P w K mg base (2 * M + 2 + 1 + 1) ("Hunt", some "is_enough") ["self", "state", "many"] [] (spEnough P w K names most signs (M + 1)) := by
  refine ok_def (d := dm_is_enough) T.fd_dm_is_enough rfl rfl sc_enough (fun _ _ _ _ _ _ us hl => match us, hl with | [_, _, _], _ => rfl) (fun vs H Q E h => ?_) fun cdv A outer s H vs Q E hr h => ?_
  · obtain ⟨_, _, _, _, _, _, rfl, _⟩ := h
    rfl
  · obtain ⟨m0, hm0, p, d, sa, st, rfl, hh, hk, hsa, hst, k⟩ := h
    obtain ⟨dx, oA, sA, ras, h1, h2, h3, h4, h5⟩ := id hh
    have n7 := wf.n7
    have hu := hr.units
    have hz : sizeLine = 16777216 := sizeLine_eq
    refine ⟨_, pss_cons (ps_if (pt_cmpR op_lt (pe_callB call_len (by rfl) T.f_len PySem.boot_len (pa_cons (pe_m (ok_left T) hr (by omega) T.cl T.m_left_ones (pv 0) (pa_cons (pv 1) pa_nil)) pa_nil)) pe_int (nomark _)) (pss_one (ps_ret pe_bl)) pss_nil)
      (pss_cons (ps_if (pt_cmpR op_eq (pv 2) pe_int (nomark _)) (pss_one (ps_ret pe_bl)) pss_nil)
      (pss_cons (ps_if (pt_cmpR (op_notInN hu) (pe_tup (pa_cons (pv 1) (pa_cons (pv 2) pa_nil))) (pe_fld (pv 0) rfl) rfl)
        (pss_one (ps_asg (pe_callB (cr_any rfl) (by rfl) T.f_any b_any (pa_cons (pe_lc (own := [("index", 3)]) (g := gName 3) (tt := tYes) (te := tMeth (CH K) "is_right" (spRight P w K names most signs M) [] E0 (tVar 0) (tCons (tVar 1) (tCons (tVar 3) (tCons (tVar 2) tNil)))) rfl sc_enough.nd
            (pi_range1 (by rfl) T.f_range (pa_cons (pe_callB call_len (by rfl) T.f_len PySem.boot_len (pa_cons (pe_fld (pv 0) rfl) pa_nil)) pa_nil)) (blkOk_by (N := ["self", "state", "many", "index"]) (sc := defScope m_is_enough) (by decide +kernel)) (fun _ _ _ _ _ => pg_name (i := 3) sc_enough.nd rfl (Or.inl rfl)) (fun _ _ _ _ _ => pts_nil)
            (fun _ _ _ _ _ => pe_m OR hr (Nat.le_refl _) T.cl T.m_is_right (pv 0) (pa_cons (pv 1) (pa_cons (pv 3) (pa_cons (pv 2) pa_nil))))) pa_nil))
          (pg_sub (pe_fld (pv 0) rfl) (pe_tup (pa_cons (pv 1) (pa_cons (pv 2) pa_nil))) (set_N hu)))) pss_nil)
      (pss_one (ps_ret (pe_getN hu (pe_fld (pv 0) rfl) (pe_tup (pa_cons (pv 1) (pa_cons (pv 2) pa_nil))) (fun _ _ => rfl)))))), ?_⟩
    refine ⟨_, rfl, p, dx, _, rfl, h1, hn_left, _, rfl, p, d, names, most, signs, sa, st, rfl, hh, by omega, hsa, hst.len, fun l H1 hl s1 e1 => ?_⟩
    refine ⟨_, _, rfl, .inl ⟨_, .of e1, rfl⟩, _, _, rfl, rfl, _, rfl, ?_⟩
    rw [List.length_map, left_len hst.len]
    by_cases hn : nl most st < 2
    · rw [decide_eq_true (show ((nl most st : Nat) : Int) < 2 by omega)]
      have kk := k H1 (But.of s1) (hk.keep s1)
      rw [En_small hn] at kk
      exact iteT kk
    · rw [decide_eq_false (show ¬ ((nl most st : Nat) : Int) < 2 by omega)]
      cases m0 with
      | zero =>
        have kk := k H1 (But.of s1) (hk.keep s1)
        rw [En_zero hn] at kk
        exact iteF ⟨_, rfl, rfl, _, rfl, iteT kk⟩
      | succ m =>
      have hmM : m ≤ M := by omega
      have hm : m + 1 < 64 := by omega
      refine iteF ⟨_, rfl, rfl, _, rfl, ?_⟩
      rw [decide_eq_false (fun q => by have := V.int.inj q; omega)]
      refine iteF ⟨_, rfl, _, rfl, by show 2 ≤ sizeLine; decide, fun q hq => ?_⟩
      have s2 : Same H (upd H1 q (.tup [.ref sa, .int ((m + 1 : Nat) : Int)])) := s1.trans (same_new hq)
      have kq : (upd H1 q (.tup [.ref sa, .int ((m + 1 : Nat) : Int)])) q = some (.tup [.ref sa, .int ((m + 1 : Nat) : Int)]) := upd_same
      generalize upd H1 q (.tup [.ref sa, .int ((m + 1 : Nat) : Int)]) = H2 at s2 kq
      obtain ⟨xs, dn, ko⟩ := hk.keep s2
      have fin : ∀ (H5 : Hp) (v : Bool), But d H H5 → (∃ ys, DN P w H5 d ys ∧ (∀ x ∈ ys, KeyOk most signs names.length x) ∧ ∃ b, valN ys (st, ((m + 1 : Nat) : Int)) = some b) →
          ∃ v, [some (V.ref p), some (V.ref sa), some (V.int ((m + 1 : Nat) : Int)), none][0]? = some (some v) ∧ ∃ a C dx fs v', v = .ref a ∧ H5 a = some (.ins C dx fs) ∧ Cls K C ∧ NoAttr K C "known" ∧ fs.lookup ("known" : Str) = some v' ∧ ∃ v1, [some (V.ref p), some (V.ref sa), some (V.int ((m + 1 : Nat) : Int)), none][1]? = some (some v1) ∧ ∃ v2, [some (V.ref p), some (V.ref sa), some (V.int ((m + 1 : Nat) : Int)), none][2]? = some (some v2) ∧
            2 ≤ sizeLine ∧ ∀ q2, H5 q2 = none → ∃ d' q' k' xs' b, v' = .ref d' ∧ V.ref q2 = .ref q' ∧ KeyAt (upd H5 q2 (.tup [v1, v2])) q' k' ∧ DN P w (upd H5 q2 (.tup [v1, v2])) d' xs' ∧ valN xs' k' = some b ∧ Q (.bl b) (upd H5 q2 (.tup [v1, v2])) := fun H5 _ b5 ⟨ys, dn5, ko5, b, hv⟩ => by
        obtain ⟨φ, hd⟩ := hk.ext
        have h15 := b5 _ _ h1 (ne_of h1 hd (fun z => nomatch z))
        have hsa5 := b5 _ _ hsa (ne_of hsa hd (fun z => nomatch z))
        refine ⟨_, rfl, p, CH K, dx, _, _, rfl, h15, T.cl, T.n_known, hf_known _ _ _ _, _, rfl, _, rfl, by decide, fun q2 hq2 => ?_⟩
        have s6 : Same H5 (upd H5 q2 (.tup [.ref sa, .int ((m + 1 : Nat) : Int)])) := same_new hq2
        have dn6 : DN P w (upd H5 q2 (.tup [.ref sa, .int ((m + 1 : Nat) : Int)])) d ys := dn5.keep ((s6 _ _ dn5.ob).trans dn5.ob.symm) fun c zs e => s6 _ _ e
        refine ⟨d, q2, (st, ((m + 1 : Nat) : Int)), ys, b, rfl, rfl, key_at upd_same (s6 _ _ hsa5), dn6, hv, ?_⟩
        have := known_val ko5 hv
        rw [this]
        exact k _ (b5.trans (But.of s6)) ⟨ys, dn6, ko5⟩
      refine ⟨_, rfl, p, CH K, dx, _, _, rfl, s2 _ _ h1, T.cl, T.n_known, hf_known _ _ _ _, q, d, _, xs, rfl, rfl, key_at kq (s2 _ _ hsa), dn, _, rfl, ?_⟩
      cases hv : valN xs (st, ((m + 1 : Nat) : Int)) with
      | some b =>
        exact iteF (fin H2 true (But.of s2) ⟨xs, dn, ko, b, hv⟩)
      | none =>
        refine iteT ?_
        refine ⟨_, rfl, p, CH K, dx, _, _, rfl, s2 _ _ h1, T.cl, T.n_signs, hf_signs _ _ _ _, _, _, rfl, .inl ⟨_, .of (s2 _ _ h3), rfl⟩, _, rfl, by omega, by rw [List.length_map, h4]; have := wf.sl; omega, ?_⟩
        intro D hD
        have elen : (((ras.map V.ref).length : Nat) : Int).toNat = signs.length := by rw [List.length_map, h4, Int.toNat_natCast]
        rw [elen]
        have hk2 := hk.keep s2
        have hh2 := hh.keep s2
        refine lc_range (lo := 0) (n := signs.length) (fun i G => But d H2 G ∧ Known P w G d most signs names.length ∧ G D = some (.lst (((signs.take i).map (Rt most signs m st)).map V.bl))) ⟨fun c o e n => by rw [upd_ne (ne_of_none e hD)]; exact e, ?_, upd_same⟩ (fun i G hi pr => ?_) fun G pr => ?_
        · exact hk2.keep (same_new hD)
        · obtain ⟨bG, kG, dG⟩ := pr
          obtain ⟨φ, hd⟩ := hk2.ext
          have es : signs[i]? = some signs[i] := List.getElem?_eq_getElem hi
          generalize signs[i] = sg at es
          have e0 : (0 : Int) + (i : Int) = ((i : Nat) : Int) := by omega
          rw [e0]
          have hhG := hh2.but hd bG
          have h1G := bG _ _ (s2 _ _ h1) (ne_of (s2 _ _ h1) hd (fun z => nomatch z))
          have hsaG := bG _ _ (s2 _ _ hsa) (ne_of (s2 _ _ hsa) hd (fun z => nomatch z))
          refine ⟨rfl, _, rfl, p, dx, _, rfl, h1G, hn_is_right, _, rfl, _, rfl, _, rfl, m, hmM, p, d, sa, st, i, sg, rfl, hhG, kG, hsaG, hst, es, fun G2 b2 k2 => ?_⟩
          obtain ⟨φ2, hd2⟩ := kG.ext
          have nDd : D ≠ d := ne_of dG hd2 (fun z => nomatch z)
          have dG2 := b2 _ _ dG nDd
          refine ⟨_, dG2, by rw [List.length_map, List.length_map, List.length_take]; have := wf.sl; omega, (fun c o e n => by rw [upd_ne (ne_of_none e hD)]; exact b2 _ _ (bG _ _ e n) n), k2.up dG2, ?_⟩
          rw [upd_same, List.take_add_one, es]
          simp
        · obtain ⟨bG, kG, dG⟩ := pr
          rw [List.take_length] at dG
          refine ⟨D, signs.map (Rt most signs m st), rfl, .of dG, ?_⟩
          obtain ⟨φ, hd⟩ := hk2.ext
          have h1G := bG _ _ (s2 _ _ h1) (ne_of (s2 _ _ h1) hd (fun z => nomatch z))
          have hsaG := bG _ _ (s2 _ _ hsa) (ne_of (s2 _ _ hsa) hd (fun z => nomatch z))
          refine ⟨_, rfl, p, CH K, dx, _, _, rfl, h1G, T.cl, T.n_known, hf_known _ _ _ _, _, rfl, _, rfl, by show 2 ≤ sizeLine; decide, fun q2 hq2 => ?_⟩
          have s6 : Same G (upd G q2 (.tup [.ref sa, .int ((m + 1 : Nat) : Int)])) := same_new hq2
          have kq2 : (upd G q2 (.tup [.ref sa, .int ((m + 1 : Nat) : Int)])) q2 = some (.tup [.ref sa, .int ((m + 1 : Nat) : Int)]) := upd_same
          generalize upd G q2 (.tup [.ref sa, .int ((m + 1 : Nat) : Int)]) = G2 at s6 kq2
          obtain ⟨zs, dnz, koz⟩ := kG.keep s6
          have ka := key_at kq2 (s6 _ _ hsaG)
          refine ⟨d, q2, (st, ((m + 1 : Nat) : Int)), zs, _, rfl, rfl, rfl, ka, dnz, known_few wf.n7 wf.mo dnz koz, ?_⟩
          have ev : (signs.map (Rt most signs m st)).any id = En most signs (m + 1) st := by
            rw [En_big hn, List.any_map]; rfl
          rw [ev]
          refine fin _ true (fun c o e n => ?_) ⟨_, dnz.put ka, known_put koz hm hst rfl, En most signs (m + 1) st, by rw [valN_put, if_pos rfl]⟩
          rw [upd_ne n]
          exact s6 _ _ (bG _ _ (s2 _ _ e) n)
theorem ok_enough (T : TX K mg) (wf : WF names.length most signs) : ∀ m : Nat, m < 64 → Ok P w K mg base (2 * m + 2) ("Hunt", some "is_enough") ["self", "state", "many"] [] (spEnough P w K names most signs m)
  | 0, _ => ok_enough0 T wf
  | m + 1, h => ok_enoughS T wf m h (ok_right T wf m (ok_enough T wf m (by omega)))
end
end My

set_option Elab.async false
set_option linter.all false
set_option maxRecDepth 100000
set_option maxHeartbeats 4000000
namespace My
open PySem PySem.Spec PyProof.Rows L2
def TrAt (H : Hp) : V → Tr → Prop
  | v, .non => v = .non
  | v, .nm s => v = .str s
  | v, .nd i a b => ∃ q va vb, v = .ref q ∧ H q = some (.tup [.int (i : Nat), va, vb]) ∧ TrAt H va a ∧ TrAt H vb b
theorem TrAt.but {d : Addr} {φ : Heap → Prop} {H H' : Hp} (hd : H d = some (.ext φ)) (k : But d H H') : ∀ {t : Tr} {v : V}, TrAt H v t → TrAt H' v t
  | .non, _, h => h
  | .nm _, _, h => h
  | .nd i a b, v, h => by
    obtain ⟨q, va, vb, e, h1, h2, h3⟩ := h
    exact ⟨q, va, vb, e, k _ _ h1 (ne_of h1 hd (fun z => nomatch z)), TrAt.but hd k h2, TrAt.but hd k h3⟩
theorem TrAt.keep {H H' : Hp} (k : Same H H') : ∀ {t : Tr} {v : V}, TrAt H v t → TrAt H' v t
  | .non, _, h => h
  | .nm _, _, h => h
  | .nd i a b, v, h => by
    obtain ⟨q, va, vb, e, h1, h2, h3⟩ := h
    exact ⟨q, va, vb, e, k _ _ h1, TrAt.keep k h2, TrAt.keep k h3⟩
section
variable (P : Program) (w : World) (K : PySem.W.Frag) (names : List Str) (most : Int) (signs : List (List Bool))
def spFrom : Sp := fun vs H Q _ => ∃ p d sa, ∃ st : List Int, vs = [.ref p, .ref sa] ∧ HuntAt K H p d names most signs ∧ Known P w H d most signs names.length ∧ H sa = some (.tup (st.map V.int)) ∧ StOk most names.length st ∧
  ∀ v H', But d H H' → Known P w H' d most signs names.length → ((∃ m : Nat, m ≤ 21 ∧ v = .int (m : Nat) ∧ En most signs m st = true ∧ ∀ j < m, En most signs j st = false) ∨ (v = .non ∧ ∀ m : Nat, (m : Int) ≤ (1 + 2 * most) * (names.length : Int) → En most signs m st = false)) → Q v H'
def FewV (v : V) : Prop := (v = .non ∧ ¬ Parted names.length signs) ∨ (Parted names.length signs ∧ ∃ m : Nat, m ≤ 21 ∧ v = .int (m : Nat) ∧ Least most signs names.length m)
def spOf : Sp := fun vs H Q _ => ∃ p d, vs = [.ref p] ∧ HuntAt K H p d names most signs ∧ Known P w H d most signs names.length ∧
  ∀ v H', But d H H' → Known P w H' d most signs names.length → FewV names most signs v → Q v H'
def spFirst (M : Nat) : Sp := fun vs H Q _ => ∃ m : Nat, m ≤ M ∧ ∃ p d sa, ∃ st : List Int, vs = [.ref p, .ref sa, .int ((m + 1 : Nat) : Int)] ∧ HuntAt K H p d names most signs ∧ Known P w H d most signs names.length ∧ H sa = some (.tup (st.map V.int)) ∧ StOk most names.length st ∧
  ¬ nl most st < 2 ∧ En most signs (m + 1) st = true ∧ ∀ H', But d H H' → Known P w H' d most signs names.length → Q (.int (fR most signs m st : Nat)) H'
def spTree (M : Nat) : Sp := fun vs H Q _ => ∃ m : Nat, m ≤ M ∧ ∃ p d sa, ∃ st : List Int, vs = [.ref p, .ref sa, .int (m : Nat)] ∧ HuntAt K H p d names most signs ∧ Known P w H d most signs names.length ∧ H sa = some (.tup (st.map V.int)) ∧ StOk most names.length st ∧
  En most signs m st = true ∧ ∀ v H', But d H H' → Known P w H' d most signs names.length → TrAt H' v (treeOf names most signs m st) → Q v H'
end
section
variable {P : Program} {w : World} {K : PySem.W.Frag} {mg : Str → Option Value} {base : Heap} {names : List Str} {most : Int} {signs : List (List Bool)}
theorem sc_from : FnScope ["self", "state", "top", "many"] ["self", "state"] (defScope m_fewest_from) := ⟨rfl, rfl, rfl, by decide +kernel, rfl, by decide +kernel, by decide +kernel⟩
theorem ok_from (T : TX K mg) (wf : WF names.length most signs) : Ok P w K mg base 45 ("Hunt", some "fewest_from") ["self", "state"] [] (spFrom P w K names most signs) := by
  refine ok_def (d := dm_fewest_from) T.fd_dm_fewest_from rfl rfl sc_from (fun _ _ _ _ _ _ us hl => match us, hl with | [_, _], _ => rfl) (fun vs H Q E h => ?_) fun cdv A outer s H vs Q E hr h => ?_
  · obtain ⟨_, _, _, _, rfl, _⟩ := h
    rfl
  · obtain ⟨p, d, sa, st, rfl, hh, hk, hsa, hst, k⟩ := h
    obtain ⟨dx, oA, sA, ras, h1, h2, h3, h4, h5⟩ := id hh
    have n7 := wf.n7
    obtain ⟨φ, hd⟩ := hk.ext
    refine ⟨_, pss_cons (ps_set (i := 2) sc_from.nd rfl (Or.inl rfl) (pe_op op_mul (pe_op op_add pe_int (pe_op op_mul pe_int (pe_fld (pv 0) rfl))) (pe_callB call_len (by rfl) T.f_len PySem.boot_len (pa_cons (pe_fld (pv 0) rfl) pa_nil))))
      (pss_cons (ps_for PassesOwn.never rfl (pi_range1 (by rfl) T.f_range (pa_cons (pe_op op_add (pv 2) pe_int) pa_nil)) (pg_name (i := 3) sc_from.nd rfl (Or.inl rfl))
        (pss_one (ps_if (pt_val (pe_m (ok_enough T wf 21 (by decide)) hr (by decide) T.cl T.m_is_enough (pv 0) (pa_cons (pv 1) (pa_cons (pv 3) pa_nil)))) (pss_one (ps_ret (pv 3))) pss_nil)))
      (pss_one (ps_ret pe_non))), ?_⟩
    have wm := wf.mo
    have c1 : CMul 2 most := .inl ⟨by decide, by decide⟩
    refine ⟨_, rfl, p, CH K, dx, _, _, rfl, h1, T.cl, T.n_most, hf_most _ _ _ _, _, _, rfl, rfl, c1, _, _, rfl, rfl, _, rfl, p, CH K, dx, _, _, rfl, h1, T.cl, T.n_ones, hf_ones _ _ _ _, _, _, rfl, .inl ⟨_, .of h2, rfl⟩, _, _, rfl, rfl, .inl ⟨by omega, by omega⟩, ?_⟩
    rw [List.length_map]
    have t0 : 0 ≤ (1 + 2 * most) * (names.length : Int) ∧ (1 + 2 * most) * (names.length : Int) ≤ 21 := by rcases wm with e | e <;> subst e <;> omega
    refine ⟨_, rfl, _, _, rfl, rfl, _, rfl, by omega, by omega, for_range (lo := 0) (n := ((1 + 2 * most) * (names.length : Int) + 1).toNat) (fun i σ G => ∃ v3, σ = [some (.ref p), some (.ref sa), some (.int ((1 + 2 * most) * (names.length : Int))), v3] ∧ But d H G ∧ Known P w G d most signs names.length ∧ ∀ j < i, En most signs j st = false) ⟨_, rfl, But.refl _ _, hk, fun j hj => absurd hj (Nat.not_lt_zero _)⟩ (fun i σ G hi pr => ?_) fun σ G pr => ?_⟩
    · obtain ⟨v3, rfl, bG, kG, hno⟩ := pr
      have e0 : (0 : Int) + (i : Int) = ((i : Nat) : Int) := by omega
      rw [e0]
      have hhG := hh.but hd bG
      have h1G := bG _ _ h1 (ne_of h1 hd (fun z => nomatch z))
      have hsaG := bG _ _ hsa (ne_of hsa hd (fun z => nomatch z))
      refine ⟨_, rfl, p, dx, _, rfl, h1G, hn_is_enough, _, rfl, _, rfl, i, by omega, p, d, sa, st, rfl, hhG, kG, hsaG, hst, fun G2 b2 k2 => ⟨_, rfl, ?_⟩⟩
      by_cases hE : En most signs i st = true
      · rw [hE]
        exact iteT ⟨_, rfl, k _ _ (bG.trans b2) k2 (.inl ⟨i, by omega, rfl, hE, hno⟩)⟩
      · have hE' : En most signs i st = false := by simpa using hE
        rw [hE']
        refine iteF ⟨_, rfl, bG.trans b2, k2, fun j hj => ?_⟩
        by_cases q : j < i
        · exact hno j q
        · have : j = i := by omega
          rw [this]; exact hE'
    · obtain ⟨v3, rfl, bG, kG, hno⟩ := pr
      exact k _ _ bG kG (.inr ⟨rfl, fun m hm => hno m (by omega)⟩)
theorem sc_of : FnScope ["hunt"] ["hunt"] (defScope s_fewest_of) := ⟨rfl, rfl, rfl, by decide +kernel, rfl, by decide +kernel, by decide +kernel⟩
theorem ok_of (T : TX K mg) (wf : WF names.length most signs) : Ok P w K mg base 46 ("fewest_of", none) ["hunt"] [] (spOf P w K names most signs) := by
  refine ok_def (d := d_fewest_of) T.fd_d_fewest_of rfl rfl sc_of (fun _ _ _ _ _ _ us hl => match us, hl with | [_], _ => rfl) (fun vs H Q E h => ?_) fun cdv A outer s H vs Q E hr h => ?_
  · obtain ⟨_, _, rfl, _⟩ := h
    rfl
  · obtain ⟨p, d, rfl, hh, hk, k⟩ := h
    obtain ⟨dx, oA, sA, ras, h1, h2, h3, h4, h5⟩ := id hh
    have n7 := wf.n7
    have n0 := wf.n0
    refine ⟨_, pss_one (ps_ret (pe_ifExp (pt_cmpR op_isN (pe_m0 (ok_unparted T) hr (by decide) T.cl T.m_unparted (pv 0)) pe_non rfl)
      (pe_m (ok_from T wf) hr (by decide) T.cl T.m_fewest_from (pv 0) (pa_cons (pe_m0 (ok_begun T) hr (by decide) T.cl T.m_begun (pv 0)) pa_nil)) pe_non)), ?_⟩
    refine ⟨_, rfl, p, dx, _, rfl, h1, hn_unparted, p, d, names, most, signs, rfl, hh, by omega, wf.sl, wf.rl, fun v H1 s1 hv => ⟨rfl, _, rfl, ?_⟩⟩
    rcases hv with ⟨rfl, hp⟩ | ⟨⟨q, rfl⟩, hp⟩
    · rw [decide_eq_true rfl]
      refine iteT ⟨_, rfl, p, dx, _, rfl, s1 _ _ h1, hn_fewest, _, rfl, p, dx, _, rfl, s1 _ _ h1, hn_begun, p, d, names, most, signs, rfl, hh.keep s1, fun e => by rw [e] at n0; exact absurd n0 (Nat.lt_irrefl _), by omega, fun sa H2 s2 hsa => ?_⟩
      refine ⟨p, d, sa, _, rfl, hh.keep (s1.trans s2), hk.keep (s1.trans s2), hsa, St0 wf.nn, fun v H3 b3 k3 hv => k _ _ ((But.of (s1.trans s2)).trans b3) k3 ?_⟩
      rcases hv with ⟨m, hm, rfl, e1, e2⟩ | ⟨rfl, e⟩
      · exact .inr ⟨hp, m, hm, rfl, e1, e2⟩
      · have hp' : Parted names.length signs := hp
        have tt : (((1 + 2 * most) * (names.length : Int)).toNat : Int) = (1 + 2 * most) * (names.length : Int) := by
          rcases wf.mo with e | e <;> subst e <;> omega
        have q1 := e _ (Int.le_of_eq tt)
        rw [En_top wf hp' tt] at q1
        cases q1
    · rw [decide_eq_false (fun z => nomatch z)]
      exact iteF (k _ _ (But.of s1) (hk.keep s1) (.inl ⟨rfl, hp⟩))
end
end My

set_option Elab.async false
set_option linter.all false
set_option maxRecDepth 100000
set_option maxHeartbeats 4000000
namespace My
open PySem PySem.Spec PyProof.Rows L2
theorem dp_strs {K : PySem.W.Frag} {H : Hp} : ∀ zs : List Str, DpAll K H (zs.map V.str) (zs.map PyData.str)
  | [] => .nil
  | z :: r => .cons (.str z) (dp_strs r)
theorem all_sh {k : Nat} : ∀ ds : List PyData, (∀ d ∈ ds, d.canLay0 = true ∧ d.depth ≤ k) → PyData.canLayAll0 ds = true ∧ PyData.depthAll ds ≤ k
  | [], _ => ⟨by rw [PyData.canLayAll0], by rw [PyData.depthAll]; exact Nat.zero_le _⟩
  | d :: r, h => by
    have h1 := h d List.mem_cons_self
    have ih := all_sh r fun e he => h e (List.mem_cons_of_mem _ he)
    refine ⟨by rw [PyData.canLayAll0, h1.1, ih.1]; rfl, ?_⟩
    rw [PyData.depthAll]
    omega
theorem sh_seq {k : Nat} {ds : List PyData} (hk : k < 64) (h : ∀ d ∈ ds, d.canLay0 = true ∧ d.depth ≤ k) : SeqAt.shaped (.list ds) = true ∧ SeqAt.shaped (.tuple ds) = true := by
  obtain ⟨a, b⟩ := all_sh ds h
  constructor <;>
  · unfold SeqAt.shaped
    rw [PyData.canLay0, PyData.depth, a, Bool.true_and]
    exact decide_eq_true (by omega)
theorem sh_strs {zs : List Str} (h : ∀ z ∈ zs, PyData.strOk z = true) : SeqAt.shaped (.list (zs.map PyData.str)) = true := (sh_seq (k := 0) (by decide) fun d hd => by
  obtain ⟨z, hz, rfl⟩ := List.mem_map.mp hd
  exact ⟨by rw [PyData.canLay0]; exact h z hz, by rw [PyData.depth]; exact Nat.le_refl _⟩).1
theorem sh_nil : SeqAt.shaped (.list []) = true := sh_strs (zs := []) fun _ h => nomatch h
theorem good_ok {z : Str} (h : goodN z = true) : PyData.strOk z = true := by
  unfold goodN at h
  rw [Bool.and_eq_true] at h
  have h4 := h.2
  unfold PyData.strOk
  rw [← Array.all_toList]
  refine List.all_eq_true.mpr fun c hc => ?_
  have := List.all_eq_true.mp h4 c hc
  rw [Bool.or_eq_true] at this
  have h1 : ∀ c ∈ small0.cps.toList, decide (c < 0x110000) = true := by decide +kernel
  have h2 : ∀ c ∈ figs0.cps.toList, decide (c < 0x110000) = true := by decide +kernel
  rcases this with q | q
  · exact h1 c (of_decide_eq_true q)
  · exact h2 c (of_decide_eq_true q)
theorem left_mem {names : List Str} {most : Int} {st : List Int} {z : Str} (h : z ∈ left names most st) : z ∈ names := by
  unfold left at h
  obtain ⟨q, hq, e⟩ := List.mem_filterMap.mp h
  split at e
  · cases e
    exact (List.of_mem_zip hq).1
  · cases e
theorem ne_nil (zs : List Str) : (!PyData.eqv (.list (zs.map PyData.str)) (.list [])) = decide (zs ≠ []) := by
  cases zs with
  | nil => rw [PyData.eqv, List.map_nil, PyData.eqvAll]; rfl
  | cons z r => rw [PyData.eqv, List.map_cons, PyData.eqvAll]; rfl
section
variable {P : Program} {w : World} {K : PySem.W.Frag} {mg : Str → Option Value} {base : Heap} {names : List Str} {most : Int} {signs : List (List Bool)}
theorem sc_first : FnScope ["hunt", "state", "many", "index"] ["hunt", "state", "many"] (defScope s_first_right) := ⟨rfl, rfl, rfl, by decide +kernel, rfl, by decide +kernel, by decide +kernel⟩
theorem ok_first (T : TX K mg) (wf : WF names.length most signs) : Ok P w K mg base 44 ("first_right", none) ["hunt", "state", "many"] [] (spFirst P w K names most signs 20) := by
  refine ok_def (d := d_first_right) T.fd_d_first_right rfl rfl sc_first (fun _ _ _ _ _ _ us hl => match us, hl with | [_, _, _], _ => rfl) (fun vs H Q E h => ?_) fun cdv A outer s H vs Q E hr h => ?_
  · obtain ⟨_, _, _, _, _, _, rfl, _⟩ := h
    rfl
  · obtain ⟨m, hm, p, d, sa, st, rfl, hh, hk, hsa, hst, hn, hE, k⟩ := h
    obtain ⟨dx, oA, sA, ras, h1, h2, h3, h4, h5⟩ := id hh
    have hz : sizeLine = 16777216 := sizeLine_eq
    refine ⟨_, pss_one (ps_ret (pe_ix ix_list (pe_lc (own := [("index", 3)]) (g := gName 3) (tt := tB (tMeth (CH K) "is_right" (spRight P w K names most signs 20) [] E0 (tVar 0) (tCons (tVar 1) (tCons (tVar 3) (tCons (tVar 2) tNil))))) (te := tVar 3) rfl sc_first.nd
      (pi_range1 (by rfl) T.f_range (pa_cons (pe_callB call_len (by rfl) T.f_len PySem.boot_len (pa_cons (pe_fld (pv 0) rfl) pa_nil)) pa_nil)) (blkOk_by (N := ["hunt", "state", "many", "index"]) (sc := defScope s_first_right) (by decide +kernel)) (fun _ _ _ _ _ => pg_name (i := 3) sc_first.nd rfl (Or.inl rfl))
      (fun _ _ _ _ _ => pts_one (pt_val (pe_m (ok_right T wf 20 (ok_enough T wf 20 (by decide))) hr (by decide) T.cl T.m_is_right (pv 0) (pa_cons (pv 1) (pa_cons (pv 3) (pa_cons (pv 2) pa_nil))))))
      (fun _ _ _ _ _ => pv 3)) pe_int (fun _ _ => rfl))), ?_⟩
    refine ⟨_, rfl, p, CH K, dx, _, _, rfl, h1, T.cl, T.n_signs, hf_signs _ _ _ _, _, _, rfl, .inl ⟨_, .of h3, rfl⟩, _, rfl, by omega, by rw [List.length_map, h4]; have := wf.sl; omega, ?_⟩
    intro D hD
    have elen : (((ras.map V.ref).length : Nat) : Int).toNat = signs.length := by rw [List.length_map, h4, Int.toNat_natCast]
    rw [elen]
    have ef : ∀ i, (List.range (i + 1)).filter (rtAt most signs m st) = (List.range i).filter (rtAt most signs m st) ++ (if rtAt most signs m st i then [i] else []) := fun i => by
      rw [List.range_succ, List.filter_append, List.filter_cons]
      cases rtAt most signs m st i <;> simp
    refine lc_range (lo := 0) (n := signs.length) (fun i G => But d H G ∧ Known P w G d most signs names.length ∧ G D = some (.lst (((List.range i).filter (rtAt most signs m st)).map fun j => V.int (j : Nat)))) ⟨fun c o e n => by rw [upd_ne (ne_of_none e hD)]; exact e, ?_, upd_same⟩ (fun i G hi pr => ?_) fun G pr => ?_
    · exact hk.keep (same_new hD)
    · obtain ⟨bG, kG, dG⟩ := pr
      obtain ⟨φ, hd⟩ := hk.ext
      have es : signs[i]? = some signs[i] := List.getElem?_eq_getElem hi
      generalize signs[i] = sg at es
      have e0 : (0 : Int) + (i : Int) = ((i : Nat) : Int) := by omega
      rw [e0]
      have hhG := hh.but hd bG
      have h1G := bG _ _ h1 (ne_of h1 hd (fun z => nomatch z))
      have hsaG := bG _ _ hsa (ne_of hsa hd (fun z => nomatch z))
      refine ⟨rfl, _, rfl, p, dx, _, rfl, h1G, hn_is_right, _, rfl, _, rfl, _, rfl, m, hm, p, d, sa, st, i, sg, rfl, hhG, kG, hsaG, hst, es, fun G2 b2 k2 => ⟨_, rfl, ?_⟩⟩
      obtain ⟨φ2, hd2⟩ := kG.ext
      have nDd : D ≠ d := ne_of dG hd2 (fun z => nomatch z)
      have dG2 := b2 _ _ dG nDd
      have er : rtAt most signs m st i = Rt most signs m st sg := by unfold rtAt; rw [es]
      by_cases hR : Rt most signs m st sg = true
      · rw [hR, if_pos rfl]
        refine ⟨_, rfl, _, dG2, ?_, (fun c o e n => by rw [upd_ne (ne_of_none e hD)]; exact b2 _ _ (bG _ _ e n) n), k2.up dG2, ?_⟩
        · rw [List.length_map]
          have := List.length_filter_le (rtAt most signs m st) (List.range i)
          rw [List.length_range] at this
          have := wf.sl
          omega
        · rw [upd_same, ef, er, hR, List.map_append]
          rfl
      · have hR' : Rt most signs m st sg = false := by simpa using hR
        rw [hR', if_neg Bool.false_ne_true]
        refine ⟨bG.trans b2, k2, ?_⟩
        rw [dG2, ef, er, hR']
        simp
    · obtain ⟨bG, kG, dG⟩ := pr
      obtain ⟨i, r, q⟩ := rights_ne hn hE
      have q' : (List.range signs.length).filter (rtAt most signs m st) = i :: r := q
      rw [q'] at dG
      have e1 : fR most signs m st = i := by unfold fR; rw [q]; rfl
      have kk := k G bG kG
      rw [e1] at kk
      exact ⟨D, _, 0, _, rfl, rfl, .of dG, atI_nat (j := 0) rfl, kk⟩
theorem sc_tree : FnScope ["hunt", "state", "many", "left", "index", "ahead"] ["hunt", "state", "many"] (defScope s_tree_from) := ⟨rfl, rfl, rfl, by decide +kernel, rfl, by decide +kernel, by decide +kernel⟩
theorem leaf_at {H : Hp} {zs : List Str} (h : zs.length < 2) {v : V} (e : v = match zs with | [] => V.non | x :: _ => V.str x) : TrAt H v (leafOf zs) := by
  match zs, h with
  | [], _ => exact e
  | x :: _, _ => exact e
theorem ok_tree0 (T : TX K mg) (wf : WF names.length most signs) (hN : ∀ z ∈ names, PyData.strOk z = true) : Ok P w K mg base 45 ("tree_from", none) ["hunt", "state", "many"] [] (spTree P w K names most signs 0) := by
  refine ok_def (d := d_tree_from) T.fd_d_tree_from rfl rfl sc_tree (fun _ _ _ _ _ _ us hl => match us, hl with | [_, _, _], _ => rfl) (fun vs H Q E h => ?_) fun cdv A outer s H vs Q E hr h => ?_
  · obtain ⟨_, _, _, _, _, _, rfl, _⟩ := h
    rfl
  · obtain ⟨m, hm, p, d, sa, st, rfl, hh, hk, hsa, hst, hE, k⟩ := h
    cases Nat.le_zero.mp hm
    obtain ⟨dx, oA, sA, ras, h1, h2, h3, h4, h5⟩ := id hh
    have n7 := wf.n7
    have hu := hr.units
    have hn : nl most st < 2 := of_decide_eq_true hE
    refine ⟨_, pss_cons (ps_set (i := 3) sc_tree.nd rfl (Or.inl rfl) (pe_m (ok_left T) hr (by decide) T.cl T.m_left_ones (pv 0) (pa_cons (pv 1) pa_nil)))
      (pss_cons (ps_if (pt_cmpR op_lt (pe_callB call_len (by rfl) T.f_len PySem.boot_len (pa_cons (pv 3) pa_nil)) pe_int (nomark _))
        (pss_one (ps_ret (pe_ifExp (pt_cmpR (op_neD hu) (pv 3) (pe_lst pa_nil) (nomark _)) (pe_ix ix_list (pv 3) pe_int (fun _ _ => rfl)) pe_non))) pss_nil) pss_never), ?_⟩
    refine ⟨_, rfl, p, dx, _, rfl, h1, hn_left, _, rfl, p, d, names, most, signs, sa, st, rfl, hh, by omega, hsa, hst.len, fun l H1 hl s1 e1 => ?_⟩
    refine ⟨_, rfl, _, _, rfl, .inl ⟨_, .of e1, rfl⟩, _, _, rfl, rfl, _, rfl, ?_⟩
    rw [List.length_map, left_len hst.len, decide_eq_true (show ((nl most st : Nat) : Int) < 2 by omega)]
    refine iteT ⟨_, rfl, by show 0 ≤ sizeLine; decide, fun q hq => ?_⟩
    have s2 : Same H (upd H1 q (.lst [])) := s1.trans (same_new hq)
    have e2 : (upd H1 q (.lst [])) l = some (.lst ((left names most st).map V.str)) := same_new hq _ _ e1
    refine ⟨_, _, .lst (.of e2) (dp_strs _), .lst (.of upd_same) .nil, sh_strs (fun z hz => hN z (left_mem hz)), sh_nil, _, rfl, ?_⟩
    rw [ne_nil]
    have ll := left_len (most := most) (hst.len)
    have kk := fun v h => k v _ (But.of s2) (hk.keep s2) (h : TrAt _ v (leafOf (left names most st)))
    generalize left names most st = zs at e2 ll kk
    match zs, ll with
    | [], _ => exact iteF (kk _ (leaf_at (zs := []) (by decide) rfl))
    | x :: r, ll => exact iteT ⟨_, rfl, l, _, 0, .str x, rfl, rfl, .of e2, atI_nat (j := 0) rfl, kk _ (leaf_at (zs := x :: r) (by omega) rfl)⟩
theorem ok_treeS (T : TX K mg) (wf : WF names.length most signs) (hN : ∀ z ∈ names, PyData.strOk z = true) (M : Nat) (hM : M ≤ 20) (OT : Ok P w K mg base (45 + M) ("tree_from", none) ["hunt", "state", "many"] [] (spTree P w K names most signs M)) :
    Ok P w K mg base (45 + M + 1) ("tree_from", none) ["hunt", "state", "many"] [] (spTree P w K names most signs (M + 1)) := by
  refine ok_def (d := d_tree_from) T.fd_d_tree_from rfl rfl sc_tree (fun _ _ _ _ _ _ us hl => match us, hl with | [_, _, _], _ => rfl) (fun vs H Q E h => ?_) fun cdv A outer s H vs Q E hr h => ?_
  · obtain ⟨_, _, _, _, _, _, rfl, _⟩ := h
    rfl
  · obtain ⟨m0, hm0, p, d, sa, st, rfl, hh, hk, hsa, hst, hE, k⟩ := h
    obtain ⟨dx, oA, sA, ras, h1, h2, h3, h4, h5⟩ := id hh
    have n7 := wf.n7
    have hu := hr.units
    refine ⟨_, pss_cons (ps_set (i := 3) sc_tree.nd rfl (Or.inl rfl) (pe_m (ok_left T) hr (by omega) T.cl T.m_left_ones (pv 0) (pa_cons (pv 1) pa_nil)))
      (pss_cons (ps_if (pt_cmpR op_lt (pe_callB call_len (by rfl) T.f_len PySem.boot_len (pa_cons (pv 3) pa_nil)) pe_int (nomark _))
        (pss_one (ps_ret (pe_ifExp (pt_cmpR (op_neD hu) (pv 3) (pe_lst pa_nil) (nomark _)) (pe_ix ix_list (pv 3) pe_int (fun _ _ => rfl)) pe_non))) pss_nil)
      (pss_cons (ps_set (i := 4) sc_tree.nd rfl (Or.inl rfl) (pe_f (ok_first T wf) hr (by omega) T.g_first_right (by rfl) (pa_cons (pv 0) (pa_cons (pv 1) (pa_cons (pv 2) pa_nil)))))
      (pss_cons (ps_set (i := 5) sc_tree.nd rfl (Or.inl rfl) (pe_f OT hr (Nat.le_refl _) T.g_tree_from (by rfl) (pa_cons (pv 0) (pa_cons (pe_m (ok_behind T) hr (by omega) T.cl T.m_behind_answer (pv 0) (pa_cons (pv 1) (pa_cons (pv 4) (pa_cons pe_bl pa_nil)))) (pa_cons (pe_op op_sub (pv 2) pe_int) pa_nil)))))
      (pss_one (ps_ret (pe_tup (pa_cons (pv 4) (pa_cons (pv 5) (pa_cons (pe_f OT hr (Nat.le_refl _) T.g_tree_from (by rfl) (pa_cons (pv 0) (pa_cons (pe_m (ok_behind T) hr (by omega) T.cl T.m_behind_answer (pv 0) (pa_cons (pv 1) (pa_cons (pv 4) (pa_cons pe_bl pa_nil)))) (pa_cons (pe_op op_sub (pv 2) pe_int) pa_nil)))) pa_nil))))))))), ?_⟩
    refine ⟨_, rfl, p, dx, _, rfl, h1, hn_left, _, rfl, p, d, names, most, signs, sa, st, rfl, hh, by omega, hsa, hst.len, fun l H1 hl s1 e1 => ?_⟩
    refine ⟨_, rfl, _, _, rfl, .inl ⟨_, .of e1, rfl⟩, _, _, rfl, rfl, _, rfl, ?_⟩
    rw [List.length_map, left_len hst.len]
    by_cases hn : nl most st < 2
    · rw [decide_eq_true (show ((nl most st : Nat) : Int) < 2 by omega)]
      refine iteT ⟨_, rfl, by show 0 ≤ sizeLine; decide, fun q hq => ?_⟩
      have s2 : Same H (upd H1 q (.lst [])) := s1.trans (same_new hq)
      have e2 : (upd H1 q (.lst [])) l = some (.lst ((left names most st).map V.str)) := same_new hq _ _ e1
      refine ⟨_, _, .lst (.of e2) (dp_strs _), .lst (.of upd_same) .nil, sh_strs (fun z hz => hN z (left_mem hz)), sh_nil, _, rfl, ?_⟩
      rw [ne_nil]
      have ll := left_len (most := most) (hst.len)
      have kk := fun v h => k v _ (But.of s2) (hk.keep s2) (by rw [tree_small hn]; exact (h : TrAt _ v (leafOf (left names most st))))
      generalize left names most st = zs at e2 ll kk
      match zs, ll with
      | [], _ => exact iteF (kk _ (leaf_at (zs := []) (by decide) rfl))
      | x :: r, ll => exact iteT ⟨_, rfl, l, _, 0, .str x, rfl, rfl, .of e2, atI_nat (j := 0) rfl, kk _ (leaf_at (zs := x :: r) (by omega) rfl)⟩
    · rw [decide_eq_false (show ¬ ((nl most st : Nat) : Int) < 2 by omega)]
      cases m0 with
      | zero => rw [En_zero hn] at hE; cases hE
      | succ m =>
      obtain ⟨φ, hd⟩ := hk.ext
      have hmM : m ≤ M := by omega
      have em : ((m + 1 : Nat) : Int) - 1 = (m : Int) := by omega
      obtain ⟨sg, g1, g2, g3, g4⟩ := fR_right hn hE
      have sgl := wf.rl sg (List.mem_of_getElem? g1)
      refine iteF ⟨_, rfl, _, rfl, _, rfl, m, by omega, p, d, sa, st, rfl, hh.keep s1, hk.keep s1, s1 _ _ hsa, hst, hn, hE, fun H2 b2 k2 => ?_⟩
      have bb : But d H H2 := (But.of s1).trans b2
      have hh2 := hh.but hd bb
      have hsa2 := bb _ _ hsa (ne_of hsa hd (fun z => nomatch z))
      have h12 := bb _ _ h1 (ne_of h1 hd (fun z => nomatch z))
      refine ⟨_, rfl, _, rfl, p, dx, _, rfl, h12, hn_behind, _, rfl, _, rfl, p, d, names, most, signs, sa, st, _, sg, true, rfl, hh2, hsa2, by rw [hst.len]; omega, g1, by rw [sgl, hst.len], fun q1 H3 s3 e3 => ?_⟩
      refine ⟨_, rfl, _, _, rfl, rfl, m, hmM, p, d, q1, _, by show [V.ref p, V.ref q1, V.int (((m + 1 : Nat) : Int) - 1)] = _; rw [em], hh2.keep s3, k2.keep s3, e3, aft_ok wf.nn hst sgl, g3, fun va H4 b4 k4 ta => ?_⟩
      obtain ⟨φ2, hd2⟩ := (k2.keep s3).ext
      have b24 : But d H2 H4 := (But.of s3).trans b4
      have bb4 := bb.trans b24
      have hh4 := hh.but hd bb4
      have hsa4 := bb4 _ _ hsa (ne_of hsa hd (fun z => nomatch z))
      have h14 := bb4 _ _ h1 (ne_of h1 hd (fun z => nomatch z))
      refine ⟨_, rfl, _, rfl, _, rfl, _, rfl, p, dx, _, rfl, h14, hn_behind, _, rfl, _, rfl, p, d, names, most, signs, sa, st, _, sg, false, rfl, hh4, hsa4, by rw [hst.len]; omega, g1, by rw [sgl, hst.len], fun q2 H5 s5 e5 => ?_⟩
      refine ⟨_, rfl, _, _, rfl, rfl, m, hmM, p, d, q2, _, by show [V.ref p, V.ref q2, V.int (((m + 1 : Nat) : Int) - 1)] = _; rw [em], hh4.keep s5, k4.keep s5, e5, aft_ok wf.nn hst sgl, g4, fun vb H6 b6 k6 tb => ?_⟩
      refine ⟨by show 3 ≤ sizeLine; decide, fun q hq => ?_⟩
      have s7 : Same H6 (upd H6 q (.tup [.int (fR most signs m st : Nat), va, vb])) := same_new hq
      obtain ⟨φ4, hd4⟩ := (k4.keep s5).ext
      refine k _ _ ((bb4.trans ((But.of s5).trans b6)).trans (But.of s7)) (k6.keep s7) ?_
      rw [tree_big hn g2]
      exact ⟨q, va, vb, rfl, upd_same, ((ta.keep s5).but hd4 b6).keep s7, tb.keep s7⟩
theorem ok_tree (T : TX K mg) (wf : WF names.length most signs) (hN : ∀ z ∈ names, PyData.strOk z = true) : ∀ M : Nat, M ≤ 21 → Ok P w K mg base (45 + M) ("tree_from", none) ["hunt", "state", "many"] [] (spTree P w K names most signs M)
  | 0, _ => ok_tree0 T wf hN
  | M + 1, h => ok_treeS T wf hN M (by omega) (ok_tree T wf hN M (by omega))
end
end My

set_option Elab.async false
set_option linter.all false
set_option maxRecDepth 100000
set_option maxHeartbeats 4000000
namespace My
open PySem PySem.Spec PyProof.Rows L2
structure Given (H : Hp) (su ask : Addr) (names : List Str) (rows : List (List Str)) : Prop where
  su : ∃ sp, SeqH H sp su (names.map V.str)
  ask : ∃ ap, RowsAt H ap ask rows
  ne : names ≠ []
  nm : okNames names
  n7 : names.length ≤ 7
  rw' : okRows rows
theorem Given.keep {H H' : Hp} {su ask : Addr} {names : List Str} {rows : List (List Str)} (g : Given H su ask names rows) (k : Same H H') : Given H' su ask names rows :=
  ⟨let ⟨a, b⟩ := g.su; ⟨a, b.keep k⟩, let ⟨a, b⟩ := g.ask; ⟨a, b.keep k⟩, g.ne, g.nm, g.n7, g.rw'⟩
theorem Given.wf {H : Hp} {su ask : Addr} {names : List Str} {rows : List (List Str)} (g : Given H su ask names rows) {m : Int} (hm : m = 0 ∨ m = 1) : WF names.length m (signsOf names rows) := by
  refine ⟨?_, g.n7, ?_, fun r hr => ?_, hm⟩
  · cases q : names with
    | nil => exact absurd q g.ne
    | cons a b => exact Nat.succ_pos _
  · unfold signsOf
    rw [List.length_map]
    exact g.rw'.2.1
  · unfold signsOf at hr
    obtain ⟨row, _, rfl⟩ := List.mem_map.mp hr
    rw [List.length_map]
theorem Given.ok {H : Hp} {su ask : Addr} {names : List Str} {rows : List (List Str)} (g : Given H su ask names rows) : ∀ z ∈ names, PyData.strOk z = true := fun z hz => good_ok (List.all_eq_true.mp g.nm.1 z hz)
def spNever : Sp := fun vs H Q _ => ∃ su ask names rows, vs = [.ref su, .ref ask] ∧ Given H su ask names rows ∧ ∀ v H', Same H H' → ((v = .non ∧ Parted names.length (signsOf names rows)) ∨ ((∃ q, v = .ref q) ∧ ¬ Parted names.length (signsOf names rows))) → Q v H'
def spFew : Sp := fun vs H Q _ => ∃ su ask names rows, ∃ m : Int, vs = [.ref su, .ref ask, .int m] ∧ (m = 0 ∨ m = 1) ∧ Given H su ask names rows ∧ ∀ v H', Same H H' → FewV names m (signsOf names rows) v → Q v H'
def Found (H : Hp) (names : List Str) (most : Int) (signs : List (List Bool)) (v : V) : Prop := (v = .non ∧ ¬ Parted names.length signs) ∨ (Parted names.length signs ∧ ∃ m : Nat, m ≤ 21 ∧ Least most signs names.length m ∧ TrAt H v (treeOf names most signs m (st0 names.length)))
def spSearch : Sp := fun vs H Q _ => ∃ su ask names rows, ∃ m : Int, vs = [.ref su, .ref ask, .int m] ∧ (m = 0 ∨ m = 1) ∧ Given H su ask names rows ∧ ∀ v H', Same H H' → Found H' names m (signsOf names rows) v → Q v H'
section
variable {X : Cx} {k j : Nat} {ps : List Str} {dvs : List V} {sp : Sp} {p pos : Pos} {e : Expr} {es : List Expr} {t : TA}
theorem pe_hunt (T : TX X.K X.mg) (O : Ok X.prog X.w X.K X.mg X.base k ("Hunt", some "__init__") ps dvs sp) (hr : Room j X.A) (hk : k + 1 ≤ j) (hg : Gl X "Hunt") (ha : PA X (e :: es) t)
    (he : starEach (e :: es) X.env = (false, eval e X.env) :: starEach es X.env := by rfl) (hpl : (backTo pos (starEach es X.env)).any (·.1) = false := by rfl) :
    PE X (.Call (.Name "Hunt" p) (e :: es) [] pos) (tMake (CH X.K) sp dvs E0 t) := by
  obtain ⟨⟨fd, ds, a, b, c⟩, kp⟩ := O
  exact pe_make T.mkH a (hr.mono hk) hg T.g_Hunt c b pass0 ha (by decide) he hpl
end
theorem same_hunt {H H' : Hp} {x dx d : Addr} {o o2 : HO} (hx : H x = none) (hdx : H dx = none) (hd : (upd (upd H dx o) x o2) d = none) (k : But x (upd (upd H dx o) x o2) H') : Same H H' ∧ H d = none := by
  have up : Same H (upd (upd H dx o) x o2) := fun b q e => by
    rw [upd_ne (ne_of_none e hx), upd_ne (ne_of_none e hdx)]
    exact e
  refine ⟨fun b q e => k _ _ (up _ _ e) (ne_of_none e hx), ?_⟩
  cases q : H d with
  | none => rfl
  | some o' => have := up _ _ q; rw [hd] at this; cases this
theorem same_but {H H1 H2 : Hp} {d : Addr} (s : Same H H1) (hd : H d = none) (b : But d H1 H2) : Same H H2 := fun c o e => b _ _ (s _ _ e) (ne_of_none e hd)
section
variable {P : Program} {w : World} {K : PySem.W.Frag} {mg : Str → Option Value} {base : Heap}
theorem ok_defD {d : He.DefD} (F : ∃ fd, FunD K d.name d.qual d.params d.body d.scope (d.dvs K) (d.kws K) (He.fAd K d.at_) fd) {N ps : List Str} {k : Nat} {sp : Sp} (S : FnScope N ps d.scope)
    (len : ∀ vs H Q E, sp vs H Q E → vs.length = ps.length)
    (body : ∀ (cdv : Value) (A : Around) (outer : List Env) (s : Shared) (H : Hp) (vs : List V) (Q : VK) (E : XK), Room k (A.deeper (envOfC d.qual d.scope s.heap.objs.size (He.fAd K d.at_) cdv)) → sp vs H Q E →
      ∃ t, PSs (cxOf CX0 P w K mg base N d.qual d.scope (He.fAd K d.at_) cdv A outer s H E).nox d.body t ∧ t { nx := fun _ H' => Q .non H', rt := Q } (start N vs) H) :
    ∃ fd, FunD K d.name d.qual d.params d.body d.scope (d.dvs K) (d.kws K) (He.fAd K d.at_) fd ∧ FnOk P w K mg base CX0 (k + 1) (He.fAd K d.at_) fd ps sp := by
  obtain ⟨fd, F⟩ := F
  refine ⟨fd, F, F.ok S len fun cdv A outer s H vs Q E hr h => ?_⟩
  obtain ⟨t, a, b⟩ := body cdv A outer s H vs Q E hr h
  exact ⟨t, a.nox, b⟩
theorem sc_never : FnScope ["suspects", "askings"] ["suspects", "askings"] (defScope s_never_parted) := ⟨rfl, rfl, rfl, by decide +kernel, rfl, by decide +kernel, by decide +kernel⟩
theorem ok_never (T : TX K mg) : Ok P w K mg base 6 ("never_parted", none) ["suspects", "askings"] [] spNever := by
  refine ok_def (d := d_never_parted) T.fd_d_never_parted rfl rfl sc_never (fun _ _ _ _ _ _ us hl => match us, hl with | [_, _], _ => rfl) (fun vs H Q E h => ?_) fun cdv A outer s H vs Q E hr h => ?_
  · obtain ⟨_, _, _, _, rfl, _⟩ := h
    rfl
  · obtain ⟨su, ask, names, rows, rfl, g, k⟩ := h
    obtain ⟨sp, hsu⟩ := g.su
    obtain ⟨ap, hask⟩ := g.ask
    have wf := g.wf (m := 0) (.inl rfl)
    refine ⟨_, pss_one (ps_ret (pe_m0 (ok_unparted T) hr (by decide) T.cl T.m_unparted (pe_hunt T (ok_init T) hr (by decide) (by rfl) (pa_cons (pv 0) (pa_cons (pv 1) (pa_cons pe_int pa_nil)))))), ?_⟩
    refine ⟨_, rfl, _, rfl, fun x dx hx hdx hne => ?_⟩
    have up : Same H (upd (upd H dx (.own x)) x (.ins (CH K) dx [])) := fun b q e => by rw [upd_ne (ne_of_none e hx), upd_ne (ne_of_none e hdx)]; exact e
    refine ⟨x, dx, sp, su, ap, ask, names, rows, 0, rfl, upd_same, hsu.keep up, g.ne, g.nm, hask.keep up, g.rw', .inl rfl, fun H1 d hd b1 hh dn => ⟨rfl, ?_⟩⟩
    obtain ⟨s1, hd0⟩ := same_hunt hx hdx hd b1
    obtain ⟨dx', oA, sA, ras, h1, h2, h3, h4, h5⟩ := id hh
    exact ⟨x, dx', _, rfl, h1, hn_unparted, x, d, names, 0, _, rfl, hh, by have := g.n7; omega, wf.sl, wf.rl, fun v H2 s2 hv => k v H2 (s1.trans s2) hv⟩
theorem sc_few : FnScope ["suspects", "askings", "lies"] ["suspects", "askings", "lies"] (defScope s_fewest_askings) := ⟨rfl, rfl, rfl, by decide +kernel, rfl, by decide +kernel, by decide +kernel⟩
theorem fn_few (T : TX K mg) : ∃ fd, FunD K d_fewest_askings.name d_fewest_askings.qual d_fewest_askings.params d_fewest_askings.body d_fewest_askings.scope (d_fewest_askings.dvs K) (d_fewest_askings.kws K) (He.fAd K d_fewest_askings.at_) fd ∧
    FnOk P w K mg base CX0 47 (He.fAd K d_fewest_askings.at_) fd ["suspects", "askings", "lies"] spFew := by
  refine ok_defD (d := d_fewest_askings) T.fd_d_fewest_askings sc_few (fun vs H Q E h => ?_) fun cdv A outer s H vs Q E hr h => ?_
  · obtain ⟨_, _, _, _, _, rfl, _⟩ := h
    rfl
  · obtain ⟨su, ask, names, rows, m, rfl, hm, g, k⟩ := h
    obtain ⟨sp, hsu⟩ := g.su
    obtain ⟨ap, hask⟩ := g.ask
    have wf := g.wf hm
    refine ⟨_, pss_one (ps_ret (pe_f (ok_of T wf) hr (by decide) T.g_fewest_of (by rfl) (pa_cons (pe_hunt T (ok_init T) hr (by decide) (by rfl) (pa_cons (pv 0) (pa_cons (pv 1) (pa_cons (pv 2) pa_nil)))) pa_nil))), ?_⟩
    refine ⟨_, rfl, _, rfl, _, rfl, fun x dx hx hdx hne => ?_⟩
    have up : Same H (upd (upd H dx (.own x)) x (.ins (CH K) dx [])) := fun b q e => by rw [upd_ne (ne_of_none e hx), upd_ne (ne_of_none e hdx)]; exact e
    refine ⟨x, dx, sp, su, ap, ask, names, rows, m, rfl, upd_same, hsu.keep up, g.ne, g.nm, hask.keep up, g.rw', hm, fun H1 d hd b1 hh dn => ⟨rfl, ?_⟩⟩
    obtain ⟨s1, hd0⟩ := same_hunt hx hdx hd b1
    exact ⟨x, d, rfl, hh, ⟨[], dn, fun _ h => nomatch h⟩, fun v H2 b2 k2 hv => k v H2 (same_but s1 hd0 b2) hv⟩
theorem ok_few2 (T : TX K mg) : Ok P w K mg base 47 ("fewest_askings", none) ["suspects", "askings", "lies"] [.int 0] spFew := by
  obtain ⟨fd, F, O⟩ := fn_few (P := P) (w := w) (base := base) T
  obtain ⟨ds, v, b⟩ := F.binds1 (ps := ["suspects", "askings", "lies"]) 2 0 (fun z => nomatch z) rfl fun TT kV doc pm an cdv ct us its h1 h2 => match us, its, h1, h2 with | [_, _], [_], _, _ => ⟨_, rfl, rfl⟩
  exact ⟨⟨fd, ds, O, v, b⟩, F.kp⟩
theorem ok_few3 (T : TX K mg) : Ok P w K mg base 47 ("fewest_askings", none) ["suspects", "askings", "lies"] [] spFew := by
  obtain ⟨fd, F, O⟩ := fn_few (P := P) (w := w) (base := base) T
  obtain ⟨ds, v, b⟩ := F.binds1 (ps := ["suspects", "askings", "lies"]) 3 1 (fun z => nomatch z) rfl fun TT kV doc pm an cdv ct us its h1 h2 => match us, its, h1, h2 with | [_, _, _], [_], _, _ => ⟨_, rfl, rfl⟩
  exact ⟨⟨fd, ds, O, v, b⟩, F.kp⟩
theorem few_kw (T : TX K mg) : ∃ fd its, FnOk P w K mg base CX0 47 (He.fAd K ("fewest_askings", none)) fd ["suspects", "askings", "lies"] spFew ∧ KBn K fd ["suspects", "askings", "lies"] 2 ["lies"] (fun us ws => (fun us (its : List Value) ws => us ++ ws) us its ws) (fun vs zs => vs ++ zs) := by
  obtain ⟨fd, F, O⟩ := fn_few (P := P) (w := w) (base := base) T
  obtain ⟨its, b⟩ := F.kbindsD (ps := ["suspects", "askings", "lies"]) 2 ["lies"] (fun us its ws => us ++ ws) (fun z => nomatch z) (fun a b c => a.append c) fun TT kV doc pm an cdv ct us its ws h1 h2 h3 => match us, its, ws, h1, h2, h3 with | [_, _], [_], [_], _, _, _ => ⟨_, rfl, rfl⟩
  exact ⟨fd, its, O, b⟩
theorem sc_search : FnScope ["suspects", "askings", "lies", "hunt", "many"] ["suspects", "askings", "lies"] (defScope s_search) := ⟨rfl, rfl, rfl, by decide +kernel, rfl, by decide +kernel, by decide +kernel⟩
theorem ok_search (T : TX K mg) : Ok P w K mg base 67 ("search", none) ["suspects", "askings", "lies"] [] spSearch := by
  obtain ⟨fd, F, O⟩ : ∃ fd, FunD K d_search.name d_search.qual d_search.params d_search.body d_search.scope (d_search.dvs K) (d_search.kws K) (He.fAd K d_search.at_) fd ∧ FnOk P w K mg base CX0 67 (He.fAd K d_search.at_) fd ["suspects", "askings", "lies"] spSearch := by
    refine ok_defD (d := d_search) T.fd_d_search sc_search (fun vs H Q E h => ?_) fun cdv A outer s H vs Q E hr h => ?_
    · obtain ⟨_, _, _, _, _, rfl, _⟩ := h
      rfl
    · obtain ⟨su, ask, names, rows, m, rfl, hm, g, k⟩ := h
      obtain ⟨sp, hsu⟩ := g.su
      obtain ⟨ap, hask⟩ := g.ask
      have wf := g.wf hm
      have n7 := wf.n7
      have n0 := wf.n0
      refine ⟨_, pss_cons (ps_set (i := 3) sc_search.nd rfl (Or.inl rfl) (pe_hunt T (ok_init T) hr (by decide) (by rfl) (pa_cons (pv 0) (pa_cons (pv 1) (pa_cons (pv 2) pa_nil)))))
        (pss_cons (ps_set (i := 4) sc_search.nd rfl (Or.inl rfl) (pe_f (ok_of T wf) hr (by decide) T.g_fewest_of (by rfl) (pa_cons (pv 3) pa_nil)))
        (pss_one (ps_ret (pe_ifExp (pt_cmpR op_isN (pv 4) pe_non rfl) pe_non
          (pe_f (ok_tree T wf g.ok 21 (by decide)) hr (by decide) T.g_tree_from (by rfl) (pa_cons (pv 3) (pa_cons (pe_m0 (ok_begun T) hr (by decide) T.cl T.m_begun (pv 3)) (pa_cons (pv 4) pa_nil)))))))), ?_⟩
      refine ⟨_, rfl, _, rfl, _, rfl, fun x dx hx hdx hne => ?_⟩
      have up : Same H (upd (upd H dx (.own x)) x (.ins (CH K) dx [])) := fun b q e => by rw [upd_ne (ne_of_none e hx), upd_ne (ne_of_none e hdx)]; exact e
      refine ⟨x, dx, sp, su, ap, ask, names, rows, m, rfl, upd_same, hsu.keep up, g.ne, g.nm, hask.keep up, g.rw', hm, fun H1 d hd b1 hh dn => ⟨rfl, ?_⟩⟩
      obtain ⟨s1, hd0⟩ := same_hunt hx hdx hd b1
      have kn : Known P w H1 d m (signsOf names rows) names.length := ⟨[], dn, fun _ h => nomatch h⟩
      refine ⟨_, rfl, x, d, rfl, hh, kn, fun v H2 b2 k2 hv => ⟨_, rfl, rfl, _, rfl, ?_⟩⟩
      obtain ⟨φ, hdd⟩ := kn.ext
      rcases hv with ⟨rfl, hp⟩ | ⟨hp, mm, hmm, rfl, hl⟩
      · rw [decide_eq_true rfl]
        exact iteT (k _ _ (same_but s1 hd0 b2) (.inl ⟨rfl, hp⟩))
      · rw [decide_eq_false (fun z => nomatch z)]
        have hh2 := hh.but hdd b2
        obtain ⟨dx', oA, sA, ras, h1, h2, h3, h4, h5⟩ := id hh2
        refine iteF ⟨_, rfl, _, rfl, x, dx', _, rfl, h1, hn_begun, x, d, names, m, _, rfl, hh2, g.ne, by omega, fun sa H3 s3 hsa => ⟨_, rfl, ?_⟩⟩
        exact ⟨mm, hmm, x, d, sa, _, rfl, hh2.keep s3, k2.keep s3, hsa, St0 wf.nn, hl.yes, fun v H4 b4 k4 tv => k _ _ (same_but s1 hd0 ((b2.trans (But.of s3)).trans b4)) (.inr ⟨hp, mm, hmm, hl, tv⟩)⟩
  obtain ⟨ds, v, b⟩ := F.binds1 (ps := ["suspects", "askings", "lies"]) 3 1 (fun z => nomatch z) rfl fun TT kV doc pm an cdv ct us its h1 h2 => match us, its, h1, h2 with | [_, _, _], [_], _, _ => ⟨_, rfl, rfl⟩
  exact ⟨⟨fd, ds, O, v, b⟩, F.kp⟩
end
end My

set_option Elab.async false
set_option linter.all false
set_option maxRecDepth 100000
set_option maxHeartbeats 4000000
namespace My
open PySem PySem.Spec PyProof.Rows L2
def hs (p cl : Addr) (H : Hp) : Hp := fun b => if b = p ∨ b = cl then none else H b
section
variable {p cl : Addr} {H H' : Hp}
theorem hs_at {b : Addr} {o : HO} (h : hs p cl H b = some o) : b ≠ p ∧ b ≠ cl ∧ H b = some o := by
  unfold hs at h
  split at h
  · cases h
  · rename_i n
    exact ⟨fun e => n (.inl e), fun e => n (.inr e), h⟩
theorem hs_of {b : Addr} {o : HO} (h : H b = some o) (h1 : b ≠ p) (h2 : b ≠ cl) : hs p cl H b = some o := by
  unfold hs
  rw [if_neg (fun z => z.elim h1 h2)]
  exact h
theorem hs_le : Same (hs p cl H) H := fun _ _ e => (hs_at e).2.2
theorem hs_mono (k : Same H H') : Same (hs p cl H) (hs p cl H') := fun b o e => let ⟨a, b', c⟩ := hs_at e; hs_of (k _ _ c) a b'
theorem hs_up_p {o : HO} : hs p cl (upd H p o) = hs p cl H := by
  funext b
  unfold hs
  by_cases e : b = p
  · rw [if_pos (.inl e), if_pos (.inl e)]
  · rw [upd_ne e]
theorem hs_up_cl {o : HO} : hs p cl (upd H cl o) = hs p cl H := by
  funext b
  unfold hs
  by_cases e : b = cl
  · rw [if_pos (.inr e), if_pos (.inr e)]
  · rw [upd_ne e]
theorem hs_up {a : Addr} {o : HO} (h1 : a ≠ p) (h2 : a ≠ cl) : hs p cl (upd H a o) = upd (hs p cl H) a o := by
  funext b
  by_cases e : b = a
  · rw [e, upd_same]
    exact hs_of upd_same h1 h2
  · rw [upd_ne e]
    unfold hs
    rw [upd_ne e]
end
abbrev stL (cl : Addr) (cur : Int) (cnt : Nat) (mix : Int) : HO := .lst [.ref cl, .int cur, .int (cnt : Nat), .int mix]
structure SAt (H : Hp) (p cl : Addr) (c : Nat) : Prop where
  ex : ∃ (cells : List Int) (cur : Int) (cnt : Nat) (mix : Int), H p = some (stL cl cur cnt mix) ∧ H cl = some (.lst (cells.map V.int)) ∧ 0 ≤ cur ∧ 0 ≤ mix ∧ mix < 2147483647 ∧ cnt ≤ c ∧ p ≠ cl
theorem SAt.keep {H H' : Hp} {p cl : Addr} {c : Nat} (h : SAt H p cl c) (k : Same H H') : SAt H' p cl c := by
  obtain ⟨cells, cur, cnt, mix, h1, h2, h3⟩ := h
  exact ⟨cells, cur, cnt, mix, k _ _ h1, k _ _ h2, h3⟩
theorem SAt.le {H : Hp} {p cl : Addr} {c c' : Nat} (h : SAt H p cl c) (k : c ≤ c') : SAt H p cl c' := by
  obtain ⟨cells, cur, cnt, mix, h1, h2, h3, h4, h5, h6, h7⟩ := h
  exact ⟨cells, cur, cnt, mix, h1, h2, h3, h4, h5, by omega, h7⟩
theorem SAt.new {H : Hp} {p cl a : Addr} {c : Nat} (h : SAt H p cl c) (ha : H a = none) : a ≠ p ∧ a ≠ cl := by
  obtain ⟨cells, cur, cnt, mix, h1, h2, _⟩ := h
  exact ⟨Ne.symm (ne_of_none h1 ha), Ne.symm (ne_of_none h2 ha)⟩
theorem SAt.up {H : Hp} {p cl a : Addr} {o : HO} {c : Nat} (h : SAt H p cl c) (h1 : a ≠ p) (h2 : a ≠ cl) : SAt (upd H a o) p cl c := by
  obtain ⟨cells, cur, cnt, mix, e1, e2, h3⟩ := h
  exact ⟨cells, cur, cnt, mix, by rw [upd_ne (Ne.symm h1)]; exact e1, by rw [upd_ne (Ne.symm h2)]; exact e2, h3⟩
def spStart (K : PySem.W.Frag) : Sp := fun vs H Q _ => ∃ a, ∃ ns : List Int, vs = [.ref a] ∧ SqL K H a (ns.map V.int) ∧ ns.length ≤ 100 ∧ ∀ p cl H', Same H (hs p cl H') → SAt H' p cl 0 → Q (.ref p) H'
def spDraw : Sp := fun vs H Q _ => ∃ p cl c, ∃ k : Nat, vs = [.ref p, .int (k : Nat)] ∧ 0 < k ∧ k < 1000 ∧ c < 1000000 ∧ SAt H p cl c ∧ ∀ (i : Nat) H', i < k → Same (hs p cl H) (hs p cl H') → SAt H' p cl (c + 1) → Q (.int (i : Nat)) H'
theorem dp_ints {K : PySem.W.Frag} {H : Hp} : ∀ zs : List Int, DpAll K H (zs.map V.int) (zs.map PyData.int)
  | [] => .nil
  | z :: r => .cons (.int z) (dp_ints r)
theorem sh_ints (zs : List Int) : SeqAt.shaped (.list (zs.map PyData.int)) = true := (sh_seq (k := 0) (by decide) fun d hd => by
  obtain ⟨z, _, rfl⟩ := List.mem_map.mp hd
  exact ⟨by rw [PyData.canLay0], by rw [PyData.depth]; exact Nat.le_refl _⟩).1
theorem ne_nilI (zs : List Int) : (!PyData.eqv (.list (zs.map PyData.int)) (.list [])) = decide (zs ≠ []) := by
  cases zs with
  | nil => rw [PyData.eqv, List.map_nil, PyData.eqvAll]; rfl
  | cons z r => rw [PyData.eqv, List.map_cons, PyData.eqvAll]; rfl
def lenAt (H : Hp) (a : Addr) : Nat := match H a with | some (.lst xs) => xs.length | _ => 0
section
variable {P : Program} {w : World} {K : PySem.W.Frag} {mg : Str → Option Value} {base : Heap}
theorem sc_start : FnScope ["_law_script"] ["_law_script"] (defScope s__law_start) := ⟨rfl, rfl, rfl, by decide +kernel, rfl, by decide +kernel, by decide +kernel⟩
theorem ok_start (T : TX K mg) : Ok P w K mg base 1 ("_law_start", none) ["_law_script"] [] (spStart K) := by
  refine ok_def (d := d__law_start) T.fd_d__law_start rfl rfl sc_start (fun _ _ _ _ _ _ us hl => match us, hl with | [_], _ => rfl) (fun vs H Q E h => ?_) fun cdv A outer s H vs Q E hr h => ?_
  · obtain ⟨_, _, rfl, _⟩ := h
    rfl
  · obtain ⟨a, ns, rfl, hs1, hl, k⟩ := h
    refine ⟨_, pss_one (ps_ret (pe_lst (pa_cons (pe_callTy call_list_of (by rfl) T.f_list b_list (pa_cons (pv 0) pa_nil)) (pa_cons pe_int (pa_cons pe_int (pa_cons pe_int pa_nil)))))), ?_⟩
    refine ⟨_, rfl, a, _, rfl, .inl hs1, fun l hl1 => ⟨by show 4 ≤ sizeLine; decide, fun p hp => ?_⟩⟩
    have hpl : l ≠ p := fun z => by rw [← z, upd_same] at hp; cases hp
    have hp0 : H p = none := by rw [upd_ne (Ne.symm hpl)] at hp; exact hp
    refine k p l _ (fun c o e => hs_of ?_ (ne_of_none e hp0) (ne_of_none e hl1)) ⟨ns, 0, 0, 11, upd_same, ?_, by decide, by decide, by decide, Nat.le_refl _, Ne.symm hpl⟩
    · rw [upd_ne (ne_of_none e hp0), upd_ne (ne_of_none e hl1)]; exact e
    · rw [upd_ne hpl, upd_same]
abbrev nDraw : List Str := ["_law_stream", "_law_many", "_law_cell", "_law_digit", "_law_mixed_here"]
theorem sc_draw : FnScope nDraw ["_law_stream", "_law_many"] (defScope s__law_draw) := ⟨rfl, rfl, rfl, by decide +kernel, rfl, by decide +kernel, by decide +kernel⟩
theorem ok_draw (T : TX K mg) : Ok P w K mg base 1 ("_law_draw", none) ["_law_stream", "_law_many"] [] spDraw := by
  refine ok_def (d := d__law_draw) T.fd_d__law_draw rfl rfl sc_draw (fun _ _ _ _ _ _ us hl => match us, hl with | [_, _], _ => rfl) (fun vs H Q E h => ?_) fun cdv A outer s H vs Q E hr h => ?_
  · obtain ⟨_, _, _, _, rfl, _⟩ := h
    rfl
  · obtain ⟨p, cl, c, many, rfl, hm0, hm1, hc, ⟨cells, cur, cnt, mix, h1, h2, h3, h4, h5, h6, h7⟩, k⟩ := h
    have hu := hr.units
    refine ⟨_, pss_cons (ps_asg (pe_op op_add (pe_ix ix_list (pv 0) pe_int (fun _ _ => rfl)) pe_int) (pg_sub (pv 0) pe_int set_list))
      (pss_cons (ps_while PassesOwn.never (PW.pt (pw_and (pt_cmpR op_eq (pe_ix ix_list (pv 0) pe_int (fun _ _ => rfl)) pe_int (nomark _)) (pw_and1 (pt_cmpR (op_neD hu) (pe_ix ix_list (pv 0) pe_int (fun _ _ => rfl)) (pe_lst pa_nil) (nomark _)))))
        (pss_cons (ps_set (i := 2) sc_draw.nd rfl (Or.inl rfl) (pe_bm PySem.F.plainAttrs_list PySem.F.slot_list_pop PySem.F.type_list_pop mt_popAt (pe_ix ix_list (pv 0) pe_int (fun _ _ => rfl)) (pa_cons pe_int pa_nil)))
        (pss_cons (ps_asg (pe_op op_mod (pe_callTy call_int1 (by rfl) T.f_int b_int (pa_cons (pe_op op_add (pe_op op_add (pe_op op_mul (pe_ix ix_list (pv 0) pe_int (fun _ _ => rfl)) pe_int) (pv 2)) pe_int) pa_nil)) pe_int) (pg_sub (pv 0) pe_int set_list))
        (pss_one (ps_asg (pe_ifExp (pt_cmpR op_ge (pv 2) (pe_op op_pow pe_int pe_int) (nomark _)) (pv 2) pe_int) (pg_sub (pv 0) pe_int set_list))))))
      (pss_cons (ps_if (pt_cmpR op_gt (pe_ix ix_list (pv 0) pe_int (fun _ _ => rfl)) pe_int (nomark _))
        (pss_cons (ps_set (i := 3) sc_draw.nd rfl (Or.inl rfl) (pe_op op_mod (pe_callTy call_int1 (by rfl) T.f_int b_int (pa_cons (pe_ix ix_list (pv 0) pe_int (fun _ _ => rfl)) pa_nil)) (pv 1)))
        (pss_cons (ps_asg (pe_op op_fdiv (pe_ix ix_list (pv 0) pe_int (fun _ _ => rfl)) (pv 1)) (pg_sub (pv 0) pe_int set_list)) (pss_one (ps_ret (pv 3))))) pss_nil)
      (pss_cons (ps_set (i := 4) sc_draw.nd rfl (Or.inl rfl) (pe_op op_mod (pe_callTy call_int1 (by rfl) T.f_int b_int (pa_cons (pe_op op_pow (pe_op op_add (pe_op op_add (pe_ix ix_list (pv 0) pe_int (fun _ _ => rfl)) (pe_op op_mul pe_int (pe_ix ix_list (pv 0) pe_int (fun _ _ => rfl)))) pe_int) pe_int) pa_nil)) pe_int))
      (pss_one (ps_ret (pe_op op_mod (pe_op op_mod (pe_callTy call_int1 (by rfl) T.f_int b_int (pa_cons (pe_op op_pow (pe_op op_add (pe_op op_add (pe_op op_mul (pv 4) pe_int) (pe_op op_mul pe_int (pe_ix ix_list (pv 0) pe_int (fun _ _ => rfl)))) pe_int) pe_int) pa_nil)) pe_int) (pv 1))))))), ?_⟩
    refine ⟨_, rfl, p, _, _, _, rfl, rfl, .of h1, rfl, _, _, rfl, rfl, _, rfl, p, _, _, _, rfl, rfl, h1, rfl, ?_⟩
    have hp0 : (upd H p (stL cl cur (cnt + 1) mix)) p = some (stL cl cur (cnt + 1) mix) := upd_same
    have hc0 : (upd H p (stL cl cur (cnt + 1) mix)) cl = some (.lst (cells.map V.int)) := by rw [upd_ne (Ne.symm h7)]; exact h2
    have hs0 : Same (hs p cl H) (hs p cl (upd H p (stL cl cur (cnt + 1) mix))) := by rw [hs_up_p]; exact Same.refl _
    refine ⟨fun m σ G => ∃ (cells : List Int) (cur : Int) (cnt : Nat) (mix : Int) (v2 : Option V), σ = [some (.ref p), some (.int (many : Nat)), v2, none, none] ∧ m = cells.length ∧ G p = some (stL cl cur cnt mix) ∧ G cl = some (.lst (cells.map V.int)) ∧
      0 ≤ cur ∧ 0 ≤ mix ∧ mix < 2147483647 ∧ cnt ≤ c + 1 ∧ Same (hs p cl H) (hs p cl G), ⟨_, cells, cur, cnt + 1, mix, _, rfl, rfl, hp0, hc0, h3, h4, h5, by omega, hs0⟩, fun m σ G pr => ?_⟩
    obtain ⟨cells, cur, cnt, mix, v2, rfl, rfl, g1, g2, g3, g4, g5, g6, g7⟩ := pr
    refine ⟨_, rfl, p, _, _, _, rfl, rfl, .of g1, rfl, rfl, _, rfl, ?_⟩
    by_cases h0 : cur = 0
    · subst h0
      rw [decide_eq_true rfl]
      refine iteT ⟨_, rfl, p, _, _, _, rfl, rfl, .of g1, rfl, by show 0 ≤ sizeLine; decide, fun q hq => ?_⟩
      have s2 : Same G (upd G q (.lst [])) := same_new hq
      have e1 := s2 _ _ g1
      have e2 := s2 _ _ g2
      have s3 := g7.trans (hs_mono (p := p) (cl := cl) s2)
      refine ⟨_, _, .lst (.of e2) (dp_ints _), .lst (.of upd_same) .nil, sh_ints _, sh_nil, _, rfl, ?_⟩
      generalize upd G q (.lst []) = G1 at e1 e2 s3
      rw [ne_nilI]
      cases cells with
      | nil =>
        rw [decide_eq_false (fun z => z rfl)]
        refine iteF ⟨_, rfl, p, _, _, _, rfl, rfl, .of e1, rfl, _, _, rfl, rfl, _, rfl, iteF ?_⟩
        have cm1 : CMul 7919 ((cnt : Nat) : Int) := .inl ⟨by decide, by decide⟩
        have cp1 : CPow (mix + 7919 * ((cnt : Nat) : Int) + 104729) 5 := ⟨by decide, by decide, by omega⟩
        refine ⟨_, rfl, p, _, _, _, rfl, rfl, .of e1, rfl, _, rfl, p, _, _, _, rfl, rfl, .of e1, rfl, _, _, rfl, rfl, cm1, _, _, rfl, rfl, _, _, rfl, rfl, _, _, rfl, rfl, cp1, .inl ⟨_, rfl, _, _, rfl, rfl, (show (0 : Int) < 2147483629 by decide), ?_⟩⟩
        have hmx : ∀ z : Int, 0 ≤ z % 2147483629 ∧ z % 2147483629 < 2147483629 := fun z => ⟨Int.emod_nonneg _ (by decide), Int.emod_lt_of_pos _ (by decide)⟩
        obtain ⟨m1, m2⟩ := hmx ((mix + 7919 * ((cnt : Nat) : Int) + 104729) ^ (5 : Int).toNat)
        have cm2 : CMul ((mix + 7919 * ((cnt : Nat) : Int) + 104729) ^ (5 : Int).toNat % 2147483629) 48271 := .inr ⟨by decide, by decide⟩
        have cm3 : CMul 30011 ((cnt : Nat) : Int) := .inl ⟨by decide, by decide⟩
        have cp2 : CPow ((mix + 7919 * ((cnt : Nat) : Int) + 104729) ^ (5 : Int).toNat % 2147483629 * 48271 + 30011 * ((cnt : Nat) : Int) + 29) 3 := ⟨by decide, by decide, by omega⟩
        refine ⟨_, rfl, _, _, rfl, rfl, cm2, _, rfl, p, _, _, _, rfl, rfl, .of e1, rfl, _, _, rfl, rfl, cm3, _, _, rfl, rfl, _, _, rfl, rfl, _, _, rfl, rfl, cp2, .inl ⟨_, rfl, _, _, rfl, rfl, (show (0 : Int) < 1000000007 by decide), _, rfl, _, _, rfl, rfl, by omega, ?_⟩⟩
        generalize ((mix + 7919 * ((cnt : Nat) : Int) + 104729) ^ (5 : Int).toNat % 2147483629 * 48271 + 30011 * ((cnt : Nat) : Int) + 29) ^ (3 : Int).toNat % 1000000007 = z
        have z1 : 0 ≤ z % ((many : Nat) : Int) := Int.emod_nonneg _ (by omega)
        have z2 : z % ((many : Nat) : Int) < many := Int.emod_lt_of_pos _ (by omega)
        obtain ⟨i, hi⟩ := Int.eq_ofNat_of_zero_le z1
        show Q (.int (z % ((many : Nat) : Int))) _
        rw [hi]
        exact k i _ (by omega) s3 ⟨[], 0, cnt, mix, e1, e2, g3, g4, g5, g6, h7⟩
      | cons x r =>
        rw [decide_eq_true (fun z => nomatch z)]
        refine iteT ⟨fun σ G => ∃ (cells : List Int) (cur : Int) (cnt : Nat) (mix : Int) (v2 : Option V), σ = [some (.ref p), some (.int (many : Nat)), v2, none, none] ∧ cells = r ∧ G p = some (stL cl cur cnt mix) ∧ G cl = some (.lst (cells.map V.int)) ∧
          0 ≤ cur ∧ 0 ≤ mix ∧ mix < 2147483647 ∧ cnt ≤ c + 1 ∧ Same (hs p cl H) (hs p cl G), fun σ' G' pr => ?_, ?_⟩
        · obtain ⟨cells, cur, cnt, mix, v2, a1, rfl, a3⟩ := pr
          exact ⟨_, Nat.lt_succ_self _, cells, cur, cnt, mix, v2, a1, rfl, a3⟩
        · have e0 : seqIndex? 0 ((x :: r).map V.int).length = some 0 := seqIndex_of (by decide) (by rw [List.length_map, List.length_cons]; omega)
          refine ⟨_, rfl, p, _, _, _, rfl, rfl, .of e1, rfl, .inl ⟨rfl, _, .of e2⟩, cl, _, _, _, _, rfl, rfl, e2, by decide, by decide, e0, rfl, ?_⟩
          have f1 : (upd G1 cl (.lst (r.map V.int))) p = some (stL cl 0 cnt mix) := by rw [upd_ne h7]; exact e1
          have f2 : (upd G1 cl (.lst (r.map V.int))) cl = some (.lst (r.map V.int)) := upd_same
          have f3 : Same (hs p cl H) (hs p cl (upd G1 cl (.lst (r.map V.int)))) := by rw [hs_up_cl]; exact s3
          show tSeq _ _ _ [some (.ref p), some (.int (many : Nat)), some (.int x), none, none] (upd G1 cl (.lst (r.map V.int)))
          generalize upd G1 cl (.lst (r.map V.int)) = G2 at f1 f2 f3
          have cm4 : CMul mix 8191 := .inr ⟨by decide, by decide⟩
          refine ⟨_, rfl, p, _, _, _, rfl, rfl, .of f1, rfl, _, _, rfl, rfl, cm4, _, rfl, _, _, rfl, rfl, _, _, rfl, rfl, .inl ⟨_, rfl, _, _, rfl, rfl, (show (0 : Int) < 2147483647 by decide), _, rfl, p, _, _, _, rfl, rfl, f1, rfl, ?_⟩⟩
          have mm1 : 0 ≤ (mix * 8191 + x + 3) % 2147483647 := Int.emod_nonneg _ (by decide)
          have mm2 : (mix * 8191 + x + 3) % 2147483647 < 2147483647 := Int.emod_lt_of_pos _ (by decide)
          have j1 : (upd G2 p (stL cl 0 cnt ((mix * 8191 + x + 3) % 2147483647))) p = some (stL cl 0 cnt ((mix * 8191 + x + 3) % 2147483647)) := upd_same
          have j2 : (upd G2 p (stL cl 0 cnt ((mix * 8191 + x + 3) % 2147483647))) cl = some (.lst (r.map V.int)) := by rw [upd_ne (Ne.symm h7)]; exact f2
          have j3 : Same (hs p cl H) (hs p cl (upd G2 p (stL cl 0 cnt ((mix * 8191 + x + 3) % 2147483647)))) := by rw [hs_up_p]; exact f3
          have cp3 : CPow 10 18 := ⟨by decide, by decide, by decide⟩
          refine ⟨_, rfl, _, _, rfl, rfl, cp3, _, _, rfl, rfl, _, rfl, ?_⟩
          have fin : ∀ y : Int, 0 ≤ y → ∃ (cells : List Int) (cur : Int) (cnt' : Nat) (mix' : Int) (v2 : Option V), [some (V.ref p), some (.int (many : Nat)), some (.int x), none, none] = [some (.ref p), some (.int (many : Nat)), v2, none, none] ∧ cells = r ∧ (upd (upd G2 p (stL cl 0 cnt ((mix * 8191 + x + 3) % 2147483647))) p (stL cl y cnt ((mix * 8191 + x + 3) % 2147483647))) p = some (stL cl cur cnt' mix') ∧ (upd (upd G2 p (stL cl 0 cnt ((mix * 8191 + x + 3) % 2147483647))) p (stL cl y cnt ((mix * 8191 + x + 3) % 2147483647))) cl = some (.lst (cells.map V.int)) ∧
              0 ≤ cur ∧ 0 ≤ mix' ∧ mix' < 2147483647 ∧ cnt' ≤ c + 1 ∧ Same (hs p cl H) (hs p cl (upd (upd G2 p (stL cl 0 cnt ((mix * 8191 + x + 3) % 2147483647))) p (stL cl y cnt ((mix * 8191 + x + 3) % 2147483647)))) := fun y hy =>
            ⟨r, y, cnt, _, _, rfl, rfl, upd_same, by rw [upd_ne (Ne.symm h7)]; exact j2, hy, mm1, mm2, g6, by rw [hs_up_p]; exact j3⟩
          by_cases hx : (10 : Int) ^ (18 : Int).toNat ≤ x
          · rw [decide_eq_true hx]
            refine iteT ⟨_, rfl, _, rfl, p, _, _, _, rfl, rfl, j1, rfl, fin x ?_⟩
            have : (10 : Int) ^ (18 : Int).toNat = 1000000000000000000 := by decide
            omega
          · rw [decide_eq_false hx]
            exact iteF ⟨_, rfl, p, _, _, _, rfl, rfl, j1, rfl, fin 0 (by decide)⟩
    · rw [decide_eq_false (fun z => h0 (V.int.inj z))]
      refine iteF (iteF ⟨_, rfl, p, _, _, _, rfl, rfl, .of g1, rfl, _, _, rfl, rfl, _, rfl, ?_⟩)
      rw [decide_eq_true (show (0 : Int) < cur by omega)]
      refine iteT ⟨_, rfl, p, _, _, _, rfl, rfl, .of g1, rfl, .inl ⟨_, rfl, _, rfl, _, _, rfl, rfl, by omega, ?_⟩⟩
      have cd : CDiv cur ((many : Nat) : Int) := ⟨by omega, by omega⟩
      refine ⟨_, rfl, p, _, _, _, rfl, rfl, .of g1, rfl, _, rfl, _, _, rfl, rfl, cd, _, rfl, p, _, _, _, rfl, rfl, g1, rfl, _, rfl, ?_⟩
      have z1 : 0 ≤ cur % ((many : Nat) : Int) := Int.emod_nonneg _ (by omega)
      have z2 : cur % ((many : Nat) : Int) < many := Int.emod_lt_of_pos _ (by omega)
      obtain ⟨i, hi⟩ := Int.eq_ofNat_of_zero_le z1
      show Q (.int (cur % ((many : Nat) : Int))) (upd G p (stL cl (cur / ((many : Nat) : Int)) cnt mix))
      rw [hi]
      exact k i _ (by omega) (by rw [hs_up_p]; exact g7) ⟨cells, _, cnt, mix, upd_same, by rw [upd_ne (Ne.symm h7)]; exact g2, Int.ediv_nonneg g3 (by omega), g4, g5, g6, h7⟩
end
end My

set_option Elab.async false
set_option linter.all false
set_option maxRecDepth 100000
set_option maxHeartbeats 4000000
namespace My
open PySem PySem.Spec PyProof.Rows L2
def spPick : Sp := fun vs H Q _ => ∃ p cl c a xs, vs = [.ref p, .ref a] ∧ hs p cl H a = some (.lst xs) ∧ xs ≠ [] ∧ xs.length < 1000 ∧ c < 1000000 ∧ SAt H p cl c ∧ ∀ (i : Nat) x H', xs[i]? = some x → Same (hs p cl H) (hs p cl H') → SAt H' p cl (c + 1) → Q x H'
def spMixed : Sp := fun vs H Q _ => ∃ p cl c a xs, vs = [.ref p, .ref a] ∧ hs p cl H a = some (.lst xs) ∧ xs.length ≤ 100 ∧ c + 100 < 1000000 ∧ SAt H p cl c ∧
  ∀ l ys H', ys.Perm xs → hs p cl H l = none → hs p cl H' l = some (.lst ys) → Same (hs p cl H) (hs p cl H') → SAt H' p cl (c + xs.length) → Q (.ref l) H'
def spLLeft : Sp := fun vs H Q _ => ∃ nA sa, ∃ names : List Str, ∃ st : List Int, ∃ most : Int, vs = [.ref nA, .ref sa, .int most] ∧ SeqH H true nA (names.map V.str) ∧ names.length ≤ 20 ∧ H sa = some (.tup (st.map V.int)) ∧ st.length = names.length ∧
  ∀ l H', H l = none → Same H H' → H' l = some (.lst ((left names most st).map V.str)) → Q (.ref l) H'
def sgOf (names row : List Str) : List Bool := names.map fun nm => decide (nm ∈ row)
theorem signsOf_eq (names : List Str) (rows : List (List Str)) : signsOf names rows = rows.map (sgOf names) := rfl
def spAfter : Sp := fun vs H Q _ => ∃ nA aA sa names rows, ∃ st : List Int, ∃ i : Nat, ∃ row ans, vs = [.ref nA, .ref aA, .ref sa, .int (i : Nat), .bl ans] ∧ SeqH H true nA (names.map V.str) ∧ names.length ≤ 20 ∧ RowsAt H true aA rows ∧ H sa = some (.tup (st.map V.int)) ∧ st.length = names.length ∧ rows[i]? = some row ∧
  ∀ q H', H q = none → Same H H' → H' q = some (.tup ((raw (sgOf names row) ans st).map V.int)) → Q (.ref q) H'
theorem raw_zip (row : List Str) (ans : Bool) : ∀ (names : List Str) (st : List Int), (names.zip st).map (fun q => q.2 + (if decide (q.1 ∈ row) != ans then (1 : Int) else 0)) = raw (sgOf names row) ans st
  | [], st => by cases st <;> rfl
  | _ :: _, [] => rfl
  | n :: ns, w :: st => by
    show _ :: _ = (w + (if decide (n ∈ row) != ans then (1 : Int) else 0)) :: raw (sgOf ns row) ans st
    rw [← raw_zip row ans ns st]
    rfl
theorem perm_pop {α : Type} : ∀ {xs : List α} {k : Nat} {y : α}, xs[k]? = some y → (y :: xs.eraseIdx k).Perm xs
  | [], k, y, h => by simp at h
  | x :: r, 0, y, h => by
    have e : x = y := by simpa using h
    rw [e]
    exact List.Perm.refl _
  | x :: r, k + 1, y, h => by
    have ih := perm_pop (xs := r) (k := k) (y := y) (by simpa using h)
    rw [List.eraseIdx_cons_succ]
    exact (List.Perm.swap x y _).trans (List.Perm.cons x ih)
section
variable {P : Program} {w : World} {K : PySem.W.Frag} {mg : Str → Option Value} {base : Heap}
theorem sc_pick : FnScope ["_law_stream", "_law_some"] ["_law_stream", "_law_some"] (defScope s__law_pick) := ⟨rfl, rfl, rfl, by decide +kernel, rfl, by decide +kernel, by decide +kernel⟩
theorem ok_pick (T : TX K mg) : Ok P w K mg base 2 ("_law_pick", none) ["_law_stream", "_law_some"] [] spPick := by
  refine ok_def (d := d__law_pick) T.fd_d__law_pick rfl rfl sc_pick (fun _ _ _ _ _ _ us hl => match us, hl with | [_, _], _ => rfl) (fun vs H Q E h => ?_) fun cdv A outer s H vs Q E hr h => ?_
  · obtain ⟨_, _, _, _, _, rfl, _⟩ := h
    rfl
  · obtain ⟨p, cl, c, a, xs, rfl, ha, hne, hl, hc, hsa, k⟩ := h
    have ha2 := (hs_at ha).2.2
    have hpos : 0 < xs.length := List.length_pos_iff.mpr hne
    refine ⟨_, pss_one (ps_ret (pe_ix ix_list (pv 1) (pe_f (ok_draw T) hr (by decide) T.g__law_draw (by rfl) (pa_cons (pv 0) (pa_cons (pe_callB call_len (by rfl) T.f_len PySem.boot_len (pa_cons (pv 1) pa_nil)) pa_nil))) (fun _ _ => rfl))), ?_⟩
    refine ⟨_, rfl, _, rfl, _, rfl, _, _, rfl, .inl ⟨_, .of ha2, rfl⟩, p, cl, c, xs.length, rfl, hpos, hl, hc, hsa, fun i H' hi s1 sa1 => ?_⟩
    have e : xs[i]? = some xs[i] := List.getElem?_eq_getElem hi
    exact ⟨a, xs, _, xs[i], rfl, rfl, .of (hs_at (s1 _ _ ha)).2.2, atI_nat e, k i _ H' e s1 sa1⟩
abbrev nMix : List Str := ["_law_stream", "_law_some", "_law_left", "_law_k"]
theorem sc_mixed : FnScope nMix ["_law_stream", "_law_some"] (defScope s__law_mixed) := ⟨rfl, rfl, rfl, by decide +kernel, rfl, by decide +kernel, by decide +kernel⟩
theorem ok_mixed (T : TX K mg) : Ok P w K mg base 2 ("_law_mixed", none) ["_law_stream", "_law_some"] [] spMixed := by
  refine ok_def (d := d__law_mixed) T.fd_d__law_mixed rfl rfl sc_mixed (fun _ _ _ _ _ _ us hl => match us, hl with | [_, _], _ => rfl) (fun vs H Q E h => ?_) fun cdv A outer s H vs Q E hr h => ?_
  · obtain ⟨_, _, _, _, _, rfl, _⟩ := h
    rfl
  · obtain ⟨p, cl, c, a, xs, rfl, ha, hl, hc, hsa, k⟩ := h
    have ha2 := (hs_at ha).2.2
    have hz : sizeLine = 16777216 := sizeLine_eq
    refine ⟨_, pss_cons (ps_set (i := 2) sc_mixed.nd rfl (Or.inr rfl) (pe_callTy call_list_of (by rfl) T.f_list b_list (pa_cons (pv 1) pa_nil)))
      (pss_one (ps_ret (pe_lc (own := [("_law_k", 3)]) (g := gName 3) (tt := tYes) (te := tBM K "list" rPopAt (tVar 2) (tCons (tCall spDraw [] E0 (tCons (tVar 0) (tCons (tCB (fun xs H Q => ∃ x n, xs = [x] ∧ LenV K x H n ∧ Q (.int n) H) (tCons (tVar 2) tNil)) tNil))) tNil)) rfl sc_mixed.nd
        (pi_range1 (by rfl) T.f_range (pa_cons (pe_callB call_len (by rfl) T.f_len PySem.boot_len (pa_cons (pv 2) pa_nil)) pa_nil)) (blkOk_by (N := nMix) (sc := defScope s__law_mixed) (by decide +kernel)) (fun _ _ _ _ _ => pg_name (i := 3) sc_mixed.nd rfl (Or.inl rfl)) (fun _ _ _ _ _ => pts_nil)
        (fun _ _ _ _ _ => pe_bm PySem.F.plainAttrs_list PySem.F.slot_list_pop PySem.F.type_list_pop mt_popAt (pv 2) (pa_cons (pe_f (ok_draw T) hr (by decide) T.g__law_draw (by rfl) (pa_cons (pv 0) (pa_cons (pe_callB call_len (by rfl) T.f_len PySem.boot_len (pa_cons (pv 2) pa_nil)) pa_nil))) pa_nil))))), ?_⟩
    refine ⟨_, rfl, a, _, rfl, .inl (.of ha2), fun L hL => ?_⟩
    obtain ⟨nLp, nLc⟩ := hsa.new hL
    refine ⟨_, rfl, _, _, rfl, .inl ⟨_, .of upd_same, rfl⟩, _, rfl, by omega, by omega, ?_⟩
    intro D hD
    have hD0 : H D = none := by
      cases q : H D with
      | none => rfl
      | some o => have := same_new (o := .lst xs) hL _ _ q; rw [hD] at this; cases this
    have nDL : D ≠ L := fun z => by rw [z, upd_same] at hD; cases hD
    obtain ⟨nDp, nDc⟩ := hsa.new hD0
    rw [Int.toNat_natCast]
    refine lc_range (lo := 0) (n := xs.length) (fun i G => ∃ rest acc, G L = some (.lst rest) ∧ G D = some (.lst acc) ∧ (acc ++ rest).Perm xs ∧ acc.length = i ∧ SAt G p cl (c + i) ∧ Same (hs p cl H) (hs p cl G)) ⟨xs, [], ?_, upd_same, List.Perm.refl _, rfl, (hsa.up nLp nLc).up nDp nDc, ?_⟩ (fun i G hi pr => ?_) fun G pr => ?_
    · rw [upd_ne (Ne.symm nDL), upd_same]
    · exact hs_mono ((same_new hL).trans (same_new hD))
    · obtain ⟨rest, acc, gL, gD, hp, ha3, gs, gk⟩ := pr
      have hlen : acc.length + rest.length = xs.length := by rw [← List.length_append]; exact hp.length_eq
      refine ⟨rfl, ?_⟩
      refine ⟨_, rfl, .inl ⟨rfl, _, .of gL⟩, _, rfl, _, rfl, _, _, rfl, .inl ⟨_, .of gL, rfl⟩, p, cl, c + i, rest.length, rfl, by omega, by omega, by omega, gs, fun j G2 hj s2 sa2 => ?_⟩
      have gL2 := (hs_at (s2 _ _ (hs_of gL nLp nLc))).2.2
      have gD2 := (hs_at (s2 _ _ (hs_of gD nDp nDc))).2.2
      have ej : rest[j]? = some rest[j] := List.getElem?_eq_getElem hj
      refine ⟨L, rest, _, j, _, rfl, rfl, gL2, by omega, by omega, seqIndex_of (by omega) (by omega), ej, ?_⟩
      refine ⟨acc, by rw [upd_ne nDL]; exact gD2, by omega, rest.eraseIdx j, acc ++ [rest[j]], by rw [upd_ne (Ne.symm nDL), upd_same], upd_same, ?_, by rw [List.length_append, ha3]; rfl, (sa2.up nLp nLc).up nDp nDc, ?_⟩
      · rw [List.append_assoc]
        exact (List.Perm.append_left acc (perm_pop ej)).trans hp
      · rw [hs_up nDp nDc, hs_up nLp nLc]
        intro b o e
        have eb := (hs_at e).2.2
        rw [upd_ne (ne_of_none eb hD0), upd_ne (ne_of_none eb hL)]
        exact s2 _ _ (gk _ _ e)
    · obtain ⟨rest, acc, gL, gD, hp, ha3, gs, gk⟩ := pr
      have hlen : acc.length + rest.length = xs.length := by rw [← List.length_append]; exact hp.length_eq
      have hr0 : rest = [] := List.length_eq_zero_iff.mp (by omega)
      subst hr0
      rw [List.append_nil] at hp
      refine k D acc G hp ?_ (hs_of gD nDp nDc) gk gs
      cases q : hs p cl H D with
      | none => rfl
      | some o => have := (hs_at q).2.2; rw [hD0] at this; cases this
abbrev nLft : List Str := ["_law_names", "_law_state", "_law_lies", "_law_name", "_law_many"]
theorem sc_lleft : FnScope nLft ["_law_names", "_law_state", "_law_lies"] (defScope s__law_m_left) := ⟨rfl, rfl, rfl, by decide +kernel, rfl, by decide +kernel, by decide +kernel⟩
theorem ok_lleft (T : TX K mg) : Ok P w K mg base 1 ("_law_m_left", none) ["_law_names", "_law_state", "_law_lies"] [] spLLeft := by
  refine ok_def (d := d__law_m_left) T.fd_d__law_m_left rfl rfl sc_lleft (fun _ _ _ _ _ _ us hl => match us, hl with | [_, _, _], _ => rfl) (fun vs H Q E h => ?_) fun cdv A outer s H vs Q E hr h => ?_
  · obtain ⟨_, _, _, _, _, rfl, _⟩ := h
    rfl
  · obtain ⟨nA, sa, names, st, most, rfl, hnA, hn, hsa, hst, k⟩ := h
    refine ⟨_, pss_one (ps_ret (pe_lc (own := [("_law_name", 3), ("_law_many", 4)]) (g := gTup K 2 (gCons (gName 3) (gCons (gName 4) gNil))) (tt := tTest (tOp (rI0 fun i j => .bl (decide (i ≤ j))) (tVar 4) (tVar 2))) (te := tVar 3) rfl sc_lleft.nd
      (pi_zipB (by rfl) T.f_zip (pa_cons (pv 0) (pa_cons (pv 1) pa_nil))) (blkOk_by (N := nLft) (sc := defScope s__law_m_left) (by decide +kernel))
      (fun _ _ _ _ _ => pg_tup rfl (pgs_cons (pg_name (i := 3) sc_lleft.nd rfl (Or.inl rfl)) (pgs_cons (pg_name (i := 4) sc_lleft.nd rfl (Or.inl rfl)) pgs_nil)))
      (fun _ _ _ _ _ => pts_one (pt_cmpR op_le (pv 4) (pv 2) (nomark _))) (fun _ _ _ _ _ => pv 3))), ?_⟩
    refine ⟨_, rfl, _, rfl, true, false, nA, sa, _, _, rfl, hnA.sqb, .of hsa, fun D hD => ?_⟩
    refine lc_fm (walk_zipB (xs := names.map V.str) (ys := st.map V.int) (by rw [List.length_map, List.length_map, hst])) (fun i => ((names.zip st)[i]?).bind fun q => if q.2 ≤ most then some (V.str q.1) else none) (by rw [List.length_map]; omega) hD
      (fun G s1 => ⟨(hnA.keep s1).sqb, .of (s1 _ _ hsa)⟩) (fun i x G G' hi s1 y R N kR kN => ?_) fun G s1 hDl => ?_
    · obtain ⟨t, x1, x2, rfl, ht, rfl, e1, e2⟩ := y
      have e1 : (names.map V.str)[i]? = some x1 := e1
      have e2 : (st.map V.int)[i]? = some x2 := e2
      rw [List.getElem?_map] at e1 e2
      obtain ⟨nm, en, rfl⟩ := Option.map_eq_some_iff.mp e1
      obtain ⟨wr, ew, rfl⟩ := Option.map_eq_some_iff.mp e2
      have ez : (names.zip st)[i]? = some (nm, wr) := by rw [List.getElem?_zip_eq_some]; exact ⟨en, ew⟩
      have s2 : Same G (upd G t (.tup [.str nm, .int wr])) := same_new ht
      refine ⟨t, _, rfl, .of upd_same, rfl, _, _, rfl, _, _, rfl, rfl, rfl, ?_⟩
      refine ⟨_, rfl, _, rfl, _, _, rfl, rfl, _, rfl, ?_⟩
      by_cases hw : wr ≤ most
      · rw [decide_eq_true hw]
        refine ⟨_, rfl, kR _ _ ?_ s2⟩
        rw [ez]
        show (if wr ≤ most then some (V.str nm) else none) = _
        rw [if_pos hw]
      · rw [decide_eq_false hw]
        refine kN _ ?_ s2
        rw [ez]
        show (if wr ≤ most then some (V.str nm) else none) = _
        rw [if_neg hw]
    · have el : (names.map V.str).length = (names.zip st).length := by rw [List.length_map, List.length_zip, hst, Nat.min_self]
      rw [el, fm_fm] at hDl
      refine k D G hD s1 ?_
      rw [hDl]
      unfold left
      rw [List.map_filterMap]
      congr 3
      funext q
      split <;> rfl
abbrev nAft : List Str := ["_law_names", "_law_askings", "_law_state", "_law_index", "_law_answer", "_law_name", "_law_many"]
theorem sc_after : FnScope nAft ["_law_names", "_law_askings", "_law_state", "_law_index", "_law_answer"] (defScope s__law_m_after) := ⟨rfl, rfl, rfl, by decide +kernel, rfl, by decide +kernel, by decide +kernel⟩
theorem ok_after (T : TX K mg) : Ok P w K mg base 1 ("_law_m_after", none) ["_law_names", "_law_askings", "_law_state", "_law_index", "_law_answer"] [] spAfter := by
  refine ok_def (d := d__law_m_after) T.fd_d__law_m_after rfl rfl sc_after (fun _ _ _ _ _ _ us hl => match us, hl with | [_, _, _, _, _], _ => rfl) (fun vs H Q E h => ?_) fun cdv A outer s H vs Q E hr h => ?_
  · obtain ⟨_, _, _, _, _, _, _, _, _, rfl, _⟩ := h
    rfl
  · obtain ⟨nA, aA, sa, names, rows, st, i, row, ans, rfl, hnA, hn, ⟨rs, g1, g2, g3⟩, hsa, hst, hrow, k⟩ := h
    have hi : i < rs.length := by rw [g2]; exact (List.getElem?_eq_some_iff.mp hrow).1
    have er : rs[i]? = some rs[i] := List.getElem?_eq_getElem hi
    generalize rs[i] = r at er
    have hsr := g3 i r row er hrow
    refine ⟨_, pss_one (ps_ret (pe_callTy call_tuple_of (by rfl) T.f_tuple b_tuple (pa_cons (pe_lc (own := [("_law_name", 5), ("_law_many", 6)]) (g := gTup K 2 (gCons (gName 5) (gCons (gName 6) gNil))) (tt := tYes)
      (te := tOp (rI0 fun i j => .int (i + j)) (tVar 6) (tCB _ (tCons (tOp rNe (tOp (rIn K false) (tVar 5) (tOp (rIxL K) (tVar 1) (tVar 3))) (tVar 4)) tNil))) rfl sc_after.nd
      (pi_zipB (by rfl) T.f_zip (pa_cons (pv 0) (pa_cons (pv 2) pa_nil))) (blkOk_by (N := nAft) (sc := defScope s__law_m_after) (by decide +kernel))
      (fun _ _ _ _ _ => pg_tup rfl (pgs_cons (pg_name (i := 5) sc_after.nd rfl (Or.inl rfl)) (pgs_cons (pg_name (i := 6) sc_after.nd rfl (Or.inl rfl)) pgs_nil)))
      (fun _ _ _ _ _ => pts_nil)
      (fun _ _ _ _ _ => pe_op op_add (pv 6) (pe_callTy call_int1 (by rfl) T.f_int b_int (pa_cons (pe_cmpR op_ne (pe_cmpR op_in_seq (pv 5) (pe_ix ix_list (pv 1) (pv 3) (fun _ _ => rfl)) rfl) (pv 4) (nomark _)) pa_nil)))) pa_nil))), ?_⟩
    refine ⟨_, rfl, _, rfl, true, false, nA, sa, _, _, rfl, hnA.sqb, .of hsa, fun D hD => ?_⟩
    refine lc_fm (walk_zipB (xs := names.map V.str) (ys := st.map V.int) (by rw [List.length_map, List.length_map, hst])) (fun i => ((names.zip st)[i]?).map fun q => V.int (q.2 + (if decide (q.1 ∈ row) != ans then (1 : Int) else 0))) (by rw [List.length_map]; omega) hD
      (fun G s1 => ⟨(hnA.keep s1).sqb, .of (s1 _ _ hsa)⟩) (fun j x G G' hj s1 y R N kR kN => ?_) fun G s1 hDl => ?_
    · obtain ⟨t, x1, x2, rfl, ht, rfl, e1, e2⟩ := y
      have e1 : (names.map V.str)[j]? = some x1 := e1
      have e2 : (st.map V.int)[j]? = some x2 := e2
      rw [List.getElem?_map] at e1 e2
      obtain ⟨nm, en, rfl⟩ := Option.map_eq_some_iff.mp e1
      obtain ⟨wr, ew, rfl⟩ := Option.map_eq_some_iff.mp e2
      have ez : (names.zip st)[j]? = some (nm, wr) := by rw [List.getElem?_zip_eq_some]; exact ⟨en, ew⟩
      have s2 : Same G (upd G t (.tup [.str nm, .int wr])) := same_new ht
      have s12 := s1.trans s2
      refine ⟨t, _, rfl, .of upd_same, rfl, _, _, rfl, _, _, rfl, rfl, rfl, ?_⟩
      have e7 : (rs.map fun r => V.ref r.2)[i]? = some (V.ref r.2) := by rw [List.getElem?_map, er]; rfl
      refine ⟨_, rfl, _, rfl, _, rfl, _, rfl, aA, _, _, _, rfl, rfl, .of (g1.keep s12), atI_nat e7, r.2, _, rfl, (hsr.keep s12).or, rfl, flat_strs _, ?_⟩
      refine ⟨_, rfl, rfl, .inr ⟨_, rfl, _, _, rfl, rfl, ?_⟩⟩
      refine kR _ _ ?_ s2
      rw [ez]
      show some (V.int (wr + (if decide (nm ∈ row) != ans then (1 : Int) else 0))) = some (V.int (wr + if (!decide (V.bl (inV (.str nm) (row.map V.str)) = V.bl ans)) = true then 1 else 0))
      rw [inV_mem, dec_bl]
      rfl
    · have el : (names.map V.str).length = (names.zip st).length := by rw [List.length_map, List.length_zip, hst, Nat.min_self]
      rw [el, fm_map] at hDl
      refine ⟨D, _, rfl, .inl ⟨.of hDl, fun l hl => k l _ (s1.free hl) (s1.trans (same_new hl)) ?_⟩⟩
      rw [upd_same, ← raw_zip, List.map_map]
      rfl
end
end My

set_option Elab.async false
set_option linter.all false
set_option maxRecDepth 100000
set_option maxHeartbeats 4000000
namespace My
open PySem PySem.Spec PyProof.Rows L2
structure KR (most : Int) (signs : List (List Bool)) (n : Nat) (xs : List NE) (m : Nat) : Prop where
  form : ∀ x ∈ xs, ∃ j : Nat, x.1.2 = (j : Int) ∧ j < 64 ∧ StOk most n x.1.1
  right : ∀ (st : List Int) (j : Nat) (v : Bool), valN xs (st, (j : Int)) = some v → j ≤ m → v = En most signs j st
theorem KR.few {most : Int} {signs : List (List Bool)} {n m : Nat} {xs : List NE} (h : KR most signs n xs m) (hn : n ≤ 7) (hm : most = 0 ∨ most = 1) (nd : (xs.map (·.1)).Nodup) : xs.length ≤ 1000000 := by
  have := few_keys (most := most) (n := n) (ks := xs.map (·.1)) hn (by rcases hm with e | e <;> omega) nd fun k hk => by
    obtain ⟨x, hx, rfl⟩ := List.mem_map.mp hk
    obtain ⟨j, e1, e2, e3⟩ := h.form x hx
    exact ⟨e3, by rw [e1]; omega, by rw [e1]; omega⟩
  rwa [List.length_map] at this
theorem KR.put {most : Int} {signs : List (List Bool)} {n m : Nat} {xs : List NE} {st : List Int} {q : Addr} {v : Bool} (h : KR most signs n xs m) (hm : m + 1 < 64) (hs : StOk most n st) : KR most signs n (putN xs (st, ((m + 1 : Nat) : Int)) q v) m := by
  refine ⟨fun x hx => ?_, fun st2 j v2 e hj => ?_⟩
  · rcases mem_putN hx with ⟨e1, _, _⟩ | ⟨_, e⟩
    · exact ⟨m + 1, by rw [e1], hm, by rw [e1]; exact hs⟩
    · exact h.form x e
  · rw [valN_put, if_neg (fun z => by have := congrArg Prod.snd z; have this : (j : Int) = ((m + 1 : Nat) : Int) := this; omega)] at e
    exact h.right st2 j v2 e hj
theorem KR.le {most : Int} {signs : List (List Bool)} {n m k : Nat} {xs : List NE} (h : KR most signs n xs m) (hk : k ≤ m) : KR most signs n xs k := ⟨h.form, fun st j v e hj => h.right st j v e (by omega)⟩
theorem DN.same {P : Program} {w : World} {H H' : Hp} {d : Addr} {xs : List NE} (h : DN P w H d xs) (k : Same H H') : DN P w H' d xs := h.keep ((k _ _ h.ob).trans h.ob.symm) fun c ys e => k _ _ e
theorem DN.upL {P : Program} {w : World} {H : Hp} {d D : Addr} {xs : List NE} {ys : List V} {o : HO} (h : DN P w H d xs) (hD : H D = some (.lst ys)) : DN P w (upd H D o) d xs :=
  h.keep (upd_ne (ne_of h.ob hD (fun z => nomatch z))) fun c zs e => by rw [upd_ne (ne_of e hD (fun z => nomatch z))]; exact e
section
variable (P : Program) (w : World) (K : PySem.W.Frag) (names : List Str) (rows : List (List Str)) (most : Int)
def spLE (M : Nat) : Sp := fun vs H Q _ => ∃ m : Nat, m ≤ M ∧ ∃ nA aA sa d, ∃ st : List Int, ∃ xs, vs = [.ref nA, .ref aA, .int most, .ref sa, .int (m : Nat), .ref d] ∧ SeqH H true nA (names.map V.str) ∧ RowsAt H true aA rows ∧ H sa = some (.tup (st.map V.int)) ∧ st.length = names.length ∧ (∀ x ∈ st, 0 ≤ x) ∧
  DN P w H d xs ∧ KR most (signsOf names rows) names.length xs m ∧ ∀ xs' H', But d H H' → DN P w H' d xs' → KR most (signsOf names rows) names.length xs' m → (∀ st2 (j : Nat), m < j → valN xs' (st2, (j : Int)) = valN xs (st2, (j : Int))) → Q (.bl (En most (signsOf names rows) m (clampL most st))) H'
end
abbrev nLE : List Str := ["_law_names", "_law_askings", "_law_lies", "_law_state", "_law_many", "_law_known", "_law_index", "_law_ends", "_law_one", "_law_answer", "_law_end"]
abbrev pLE : List Str := ["_law_names", "_law_askings", "_law_lies", "_law_state", "_law_many", "_law_known"]
theorem sc_le : FnScope nLE pLE (defScope s__law_m_is_enough) := ⟨rfl, rfl, rfl, by decide +kernel, rfl, by decide +kernel, by decide +kernel⟩
section
variable {P : Program} {w : World} {K : PySem.W.Frag} {mg : Str → Option Value} {base : Heap} {names : List Str} {rows : List (List Str)} {most : Int}
theorem ok_le0 (T : TX K mg) (wf : WF names.length most (signsOf names rows)) : Ok P w K mg base 2 ("_law_m_is_enough", none) pLE [] (spLE P w names rows most 0) := by
  refine ok_def (d := d__law_m_is_enough) T.fd_d__law_m_is_enough rfl rfl sc_le (fun _ _ _ _ _ _ us hl => match us, hl with | [_, _, _, _, _, _], _ => rfl) (fun vs H Q E h => ?_) fun cdv A outer s H vs Q E hr h => ?_
  · obtain ⟨_, _, _, _, _, _, _, _, rfl, _⟩ := h
    rfl
  · obtain ⟨m, hm0, nA, aA, sa, d, st, xs, rfl, hnA, haA, hsa, hst, hnn, dn, kr, k⟩ := h
    cases Nat.le_zero.mp hm0
    have n7 := wf.n7
    refine ⟨_, pss_cons (ps_if (pt_cmpR op_lt (pe_callB call_len (by rfl) T.f_len PySem.boot_len (pa_cons (pe_f (ok_lleft T) hr (by decide) T.g__law_m_left (by rfl) (pa_cons (pv 0) (pa_cons (pv 3) (pa_cons (pv 2) pa_nil)))) pa_nil)) pe_int (nomark _)) (pss_one (ps_ret pe_bl)) pss_nil)
      (pss_cons (ps_set (i := 3) sc_le.nd rfl (Or.inr rfl) (pe_callTy call_tuple_of (by rfl) T.f_tuple b_tuple (pa_cons (pe_lc (own := [("_law_one", 8)]) (g := gName 8) (tt := tYes) (te := tCB _ (tCons (tVar 8) (tCons (tOp _ (tVar 2) _) tNil))) rfl sc_le.nd (pi_sqB (pv 3))
        (blkOk_by (N := nLE) (sc := defScope s__law_m_is_enough) (by decide +kernel)) (fun _ _ _ _ _ => pg_name (i := 8) sc_le.nd rfl (Or.inl rfl)) (fun _ _ _ _ _ => pts_nil)
        (fun _ _ _ _ _ => pe_callB (call_min2 rfl) (by rfl) T.f_min b_min (pa_cons (pv 8) (pa_cons (pe_op op_add (pv 2) pe_int) pa_nil)))) pa_nil)))
      (pss_cons (ps_if (PW.pt (pw_and (pt_cmpR op_gt (pv 4) pe_int (nomark _)) (pw_and1 (pt_cmpR (op_notInN hr.units) (pe_tup (pa_cons (pv 3) (pa_cons (pv 4) pa_nil))) (pv 5) rfl)))) pss_never pss_nil)
      (pss_one (ps_ret (pe_and (pe_cmpR op_gt (pv 4) pe_int (nomark _)) (pe_one (pe_getN hr.units (pv 5) (pe_tup (pa_cons (pv 3) (pa_cons (pv 4) pa_nil))) (fun _ _ => rfl)))))))), ?_⟩
    refine ⟨_, rfl, _, rfl, _, rfl, nA, sa, names, st, most, rfl, hnA, by omega, hsa, hst, fun l H1 hl s1 e1 => ?_⟩
    refine ⟨_, _, rfl, .inl ⟨_, .of e1, rfl⟩, _, _, rfl, rfl, _, rfl, ?_⟩
    rw [List.length_map, left_len hst]
    have nc := nl_clamp (most := most) st
    by_cases hn : nl most st < 2
    · rw [decide_eq_true (show ((nl most st : Nat) : Int) < 2 by omega)]
      have kk := k xs H1 (But.of s1) (dn.same s1) kr (fun _ _ _ => rfl)
      rw [En_small (by omega)] at kk
      exact iteT kk
    · rw [decide_eq_false (show ¬ ((nl most st : Nat) : Int) < 2 by omega)]
      refine iteF ⟨_, rfl, false, sa, _, rfl, .of (s1 _ _ hsa), fun D hD => lc_fm (walk_sqB (p := false) (xs := st.map V.int)) (fun i => (st[i]?).map fun x => V.int (if most + 1 < x then most + 1 else x)) (by rw [List.length_map]; omega) hD
        (fun G s2 => .of (s2 _ _ (s1 _ _ hsa))) (fun i x G G' hi s2 y R N kR kN => ?_) fun G s2 hDl => ?_⟩
      · obtain ⟨e5, ex⟩ := y
        subst e5
        rw [List.getElem?_map] at ex
        obtain ⟨z, ez, rfl⟩ := Option.map_eq_some_iff.mp ex
        exact ⟨rfl, _, rfl, _, rfl, _, _, rfl, rfl, _, _, rfl, kR _ _ (by rw [ez]; rfl) (Same.refl _)⟩
      · have el : (st.map V.int).length = st.length := List.length_map _
        rw [el, fm_map] at hDl
        refine ⟨D, _, rfl, .inl ⟨.of hDl, fun q hq => ?_⟩⟩
        have s3 := (s1.trans s2).trans (same_new (o := .tup (st.map fun x => V.int (if most + 1 < x then most + 1 else x))) hq)
        refine ⟨_, rfl, _, _, rfl, rfl, _, rfl, iteF (iteF ⟨_, rfl, _, _, rfl, rfl, _, rfl, iteF ?_⟩)⟩
        have kk := k xs _ (But.of s3) (dn.same s3) kr (fun _ _ _ => rfl)
        rw [En_zero (by omega)] at kk
        exact kk
end
end My

set_option Elab.async false
set_option linter.all false
set_option maxRecDepth 100000
set_option maxHeartbeats 4000000
namespace My
open PySem PySem.Spec PyProof.Rows L2
section
variable {P : Program} {w : World} {K : PySem.W.Frag} {mg : Str → Option Value} {base : Heap} {names : List Str} {rows : List (List Str)} {most : Int}
theorem ok_leS (T : TX K mg) (wf : WF names.length most (signsOf names rows)) (M : Nat) (hM : M + 1 < 64) (OE : Ok P w K mg base (M + 2) ("_law_m_is_enough", none) pLE [] (spLE P w names rows most M)) :
    Ok P w K mg base (M + 2 + 1) ("_law_m_is_enough", none) pLE [] (spLE P w names rows most (M + 1)) := by
  refine ok_def (d := d__law_m_is_enough) T.fd_d__law_m_is_enough rfl rfl sc_le (fun _ _ _ _ _ _ us hl => match us, hl with | [_, _, _, _, _, _], _ => rfl) (fun vs H Q E h => ?_) fun cdv A outer s H vs Q E hr h => ?_
  · obtain ⟨_, _, _, _, _, _, _, _, rfl, _⟩ := h
    rfl
  · obtain ⟨m0, hm0, nA, aA, sa, d, st, xs, rfl, hnA, haA, hsa, hst, hnn, dn, kr, k⟩ := h
    have n7 := wf.n7
    have hu := hr.units
    have hz : sizeLine = 16777216 := sizeLine_eq
    refine ⟨_, pss_cons (ps_if (pt_cmpR op_lt (pe_callB call_len (by rfl) T.f_len PySem.boot_len (pa_cons (pe_f (ok_lleft T) hr (by omega) T.g__law_m_left (by rfl) (pa_cons (pv 0) (pa_cons (pv 3) (pa_cons (pv 2) pa_nil)))) pa_nil)) pe_int (nomark _)) (pss_one (ps_ret pe_bl)) pss_nil)
      (pss_cons (ps_set (i := 3) sc_le.nd rfl (Or.inr rfl) (pe_callTy call_tuple_of (by rfl) T.f_tuple b_tuple (pa_cons (pe_lc (own := [("_law_one", 8)]) (g := gName 8) (tt := tYes) (te := tCB _ (tCons (tVar 8) (tCons (tOp _ (tVar 2) _) tNil))) rfl sc_le.nd (pi_sqB (pv 3))
        (blkOk_by (N := nLE) (sc := defScope s__law_m_is_enough) (by decide +kernel)) (fun _ _ _ _ _ => pg_name (i := 8) sc_le.nd rfl (Or.inl rfl)) (fun _ _ _ _ _ => pts_nil)
        (fun _ _ _ _ _ => pe_callB (call_min2 rfl) (by rfl) T.f_min b_min (pa_cons (pv 8) (pa_cons (pe_op op_add (pv 2) pe_int) pa_nil)))) pa_nil)))
      (pss_cons (ps_if (PW.pt (pw_and (pt_cmpR op_gt (pv 4) pe_int (nomark _)) (pw_and1 (pt_cmpR (op_notInN hu) (pe_tup (pa_cons (pv 3) (pa_cons (pv 4) pa_nil))) (pv 5) rfl))))
        (pss_cons (ps_asg pe_bl (pg_sub (pv 5) (pe_tup (pa_cons (pv 3) (pa_cons (pv 4) pa_nil))) (set_N hu)))
        (pss_one (ps_for PassesOwn.never rfl (pi_range1 (by rfl) T.f_range (pa_cons (pe_callB call_len (by rfl) T.f_len PySem.boot_len (pa_cons (pv 1) pa_nil)) pa_nil)) (pg_name (i := 6) sc_le.nd rfl (Or.inr rfl))
          (pss_cons (ps_setLc (i := 7) (own := [("_law_answer", 9)]) (g := gName 9) (tt := tYes) (te := tCall spAfter [] E0 (tCons (tVar 0) (tCons (tVar 1) (tCons (tVar 3) (tCons (tVar 6) (tCons (tVar 9) tNil)))))) rfl sc_le.nd rfl rfl (sw_true rfl rfl rfl (by decide +kernel)) (pi_sqB (pe_tup (pa_cons pe_bl (pa_cons pe_bl pa_nil))))
            (blkOk_by (N := nLE) (sc := defScope s__law_m_is_enough) (by decide +kernel)) (fun _ _ _ _ _ => pg_name (i := 9) sc_le.nd rfl (Or.inl rfl)) (fun _ _ _ _ _ => pts_nil)
            (fun _ _ _ _ _ => pe_f (ok_after T) hr (by omega) T.g__law_m_after (by rfl) (pa_cons (pv 0) (pa_cons (pv 1) (pa_cons (pv 3) (pa_cons (pv 6) (pa_cons (pv 9) pa_nil)))))))
          (pss_one (ps_if (pt_val (pe_callB (cr_all rfl) (by rfl) T.f_all b_all (pa_cons (pe_lc (own := [("_law_end", 10)]) (g := gName 10) (tt := tYes)
              (te := tCall (spLE P w names rows most M) [] E0 (tCons (tVar 0) (tCons (tVar 1) (tCons (tVar 2) (tCons (tVar 10) (tCons (tOp (rI0 fun i j => .int (i - j)) (tVar 4) (tC (.int 1))) (tCons (tVar 5) tNil))))))) rfl sc_le.nd (pi_sqB (pv 7))
              (blkOk_by (N := nLE) (sc := defScope s__law_m_is_enough) (by decide +kernel)) (fun _ _ _ _ _ => pg_name (i := 10) sc_le.nd rfl (Or.inl rfl)) (fun _ _ _ _ _ => pts_nil)
              (fun _ _ _ _ _ => pe_f OE hr (Nat.le_refl _) T.g__law_m_is_enough (by rfl) (pa_cons (pv 0) (pa_cons (pv 1) (pa_cons (pv 2) (pa_cons (pv 10) (pa_cons (pe_op op_sub (pv 4) pe_int) (pa_cons (pv 5) pa_nil)))))))) pa_nil)))
            (pss_one (ps_asg pe_bl (pg_sub (pv 5) (pe_tup (pa_cons (pv 3) (pa_cons (pv 4) pa_nil))) (set_N hu)))) pss_nil)))))) pss_nil)
      (pss_one (ps_ret (pe_and (pe_cmpR op_gt (pv 4) pe_int (nomark _)) (pe_one (pe_getN hu (pv 5) (pe_tup (pa_cons (pv 3) (pa_cons (pv 4) pa_nil))) (fun _ _ => rfl)))))))), ?_⟩
    refine ⟨_, rfl, _, rfl, _, rfl, nA, sa, names, st, most, rfl, hnA, by omega, hsa, hst, fun l H1 hl s1 e1 => ?_⟩
    refine ⟨_, _, rfl, .inl ⟨_, .of e1, rfl⟩, _, _, rfl, rfl, _, rfl, ?_⟩
    rw [List.length_map, left_len hst]
    have nc := nl_clamp (most := most) st
    by_cases hn : nl most st < 2
    · rw [decide_eq_true (show ((nl most st : Nat) : Int) < 2 by omega)]
      have kk := k xs H1 (But.of s1) (dn.same s1) kr (fun _ _ _ => rfl)
      rw [En_small (by omega)] at kk
      exact iteT kk
    · rw [decide_eq_false (show ¬ ((nl most st : Nat) : Int) < 2 by omega)]
      refine iteF ⟨_, rfl, false, sa, _, rfl, .of (s1 _ _ hsa), fun D hD => lc_fm (walk_sqB (p := false) (xs := st.map V.int)) (fun i => (st[i]?).map fun x => V.int (if most + 1 < x then most + 1 else x)) (by rw [List.length_map]; omega) hD
        (fun G s2 => .of (s2 _ _ (s1 _ _ hsa))) (fun i x G G' hi s2 y R N kR kN => ?_) fun G s2 hDl => ?_⟩
      · obtain ⟨e5, ex⟩ := y
        subst e5
        rw [List.getElem?_map] at ex
        obtain ⟨z, ez, rfl⟩ := Option.map_eq_some_iff.mp ex
        exact ⟨rfl, _, rfl, _, rfl, _, _, rfl, rfl, _, _, rfl, kR _ _ (by rw [ez]; rfl) (Same.refl _)⟩
      · have el : (st.map V.int).length = st.length := List.length_map _
        rw [el, fm_map] at hDl
        refine ⟨D, _, rfl, .inl ⟨.of hDl, fun q1 hq1 => ?_⟩⟩
        have s3 : Same H (upd G q1 (.tup ((clampL most st).map V.int))) := (s1.trans s2).trans (same_new hq1)
        have eq1 : (upd G q1 (.tup ((clampL most st).map V.int))) q1 = some (.tup ((clampL most st).map V.int)) := upd_same
        have ecl : (st.map fun x => V.int (if most + 1 < x then most + 1 else x)) = (clampL most st).map V.int := by unfold clampL; rw [List.map_map]; rfl
        rw [ecl]
        generalize upd G q1 (.tup ((clampL most st).map V.int)) = H3 at s3 eq1
        have sc := clamp_ok (most := most) wf.nn hst hnn
        have scl := clamp_id (most := most) sc.hi
        generalize hcl : clampL most st = sc' at k nc sc scl eq1
        have hn' : ¬ nl most sc' < 2 := by omega
        cases m0 with
        | zero =>
          refine ⟨_, rfl, _, _, rfl, rfl, _, rfl, iteF (iteF ⟨_, rfl, _, _, rfl, rfl, _, rfl, iteF ?_⟩)⟩
          have kk := k xs _ (But.of s3) (dn.same s3) kr (fun _ _ _ => rfl)
          rw [En_zero hn'] at kk
          exact kk
        | succ m =>
        have hmM : m ≤ M := by omega
        have hm1 : m + 1 < 64 := by omega
        have em : ((m + 1 : Nat) : Int) - 1 = (m : Int) := by omega
        have dn3 := dn.same s3
        have hnA3 := hnA.keep s3
        have haA3 := haA.keep s3
        obtain ⟨φ, hd3⟩ : ∃ φ, H3 d = some (.ext φ) := ⟨_, dn3.ob⟩
        have bH : ∀ {G : Hp}, But d H3 G → But d H G := fun b => (But.of s3).trans b
        have fin : ∀ (σ : L2.St) (G : Hp) (ys : List NE), σ[3]? = some (some (.ref q1)) → σ[4]? = some (some (.int ((m + 1 : Nat) : Int))) → σ[5]? = some (some (.ref d)) → But d H3 G → DN P w G d ys → KR most (signsOf names rows) names.length ys (m + 1) →
            (∃ b, valN ys (sc', ((m + 1 : Nat) : Int)) = some b) → (∀ st2 (j : Nat), m + 1 < j → valN ys (st2, (j : Int)) = valN xs (st2, (j : Int))) → tGetN P w (tVar 5) (tTup (tCons (tVar 3) (tCons (tVar 4) tNil))) σ G Q := fun σ G ys g3 g4 g5 bG dG kG ⟨b, hb⟩ hj => by
          refine ⟨_, g5, _, g3, _, g4, by show 2 ≤ sizeLine; decide, fun q2 hq2 => ?_⟩
          have s6 : Same G (upd G q2 (.tup [.ref q1, .int ((m + 1 : Nat) : Int)])) := same_new hq2
          have eqG := s6 _ _ (bG _ _ eq1 (ne_of eq1 hd3 (fun z => nomatch z)))
          refine ⟨d, q2, (sc', ((m + 1 : Nat) : Int)), ys, b, rfl, rfl, key_at upd_same eqG, dG.same s6, hb, ?_⟩
          rw [kG.right _ _ _ hb (Nat.le_refl _)]
          exact k ys _ ((bH bG).trans (But.of s6)) (dG.same s6) kG hj
        refine ⟨_, rfl, _, _, rfl, rfl, _, rfl, ?_⟩
        rw [decide_eq_true (show (0 : Int) < ((m + 1 : Nat) : Int) by omega)]
        refine iteT ⟨_, rfl, _, rfl, by show 2 ≤ sizeLine; decide, fun q hq => ?_⟩
        have s4 : Same H3 (upd H3 q (.tup [.ref q1, .int ((m + 1 : Nat) : Int)])) := same_new hq
        have kq : (upd H3 q (.tup [.ref q1, .int ((m + 1 : Nat) : Int)])) q = some (.tup [.ref q1, .int ((m + 1 : Nat) : Int)]) := upd_same
        generalize upd H3 q (.tup [.ref q1, .int ((m + 1 : Nat) : Int)]) = H4 at s4 kq
        refine ⟨_, rfl, q, d, _, xs, rfl, rfl, key_at kq (s4 _ _ eq1), dn3.same s4, _, rfl, ?_⟩
        cases hv : valN xs (sc', ((m + 1 : Nat) : Int)) with
        | some b =>
          refine iteF ⟨_, rfl, _, _, rfl, rfl, _, rfl, ?_⟩
          rw [decide_eq_true (show (0 : Int) < ((m + 1 : Nat) : Int) by omega)]
          exact iteT (fin _ H4 xs rfl rfl rfl (But.of s4) (dn3.same s4) kr ⟨b, hv⟩ fun _ _ _ => rfl)
        | none =>
          refine iteT ⟨_, rfl, _, rfl, _, rfl, by show 2 ≤ sizeLine; decide, fun q2 hq2 => ?_⟩
          have s5 : Same H4 (upd H4 q2 (.tup [.ref q1, .int ((m + 1 : Nat) : Int)])) := same_new hq2
          have kq2 : (upd H4 q2 (.tup [.ref q1, .int ((m + 1 : Nat) : Int)])) q2 = some (.tup [.ref q1, .int ((m + 1 : Nat) : Int)]) := upd_same
          generalize upd H4 q2 (.tup [.ref q1, .int ((m + 1 : Nat) : Int)]) = H5 at s5 kq2
          have ka5 := key_at kq2 (s5 _ _ (s4 _ _ eq1))
          have dn5 := (dn3.same s4).same s5
          refine ⟨d, q2, (sc', ((m + 1 : Nat) : Int)), xs, false, rfl, rfl, rfl, ka5, dn5, kr.few n7 wf.mo dn.nd, ?_⟩
          have dn6 := dn5.put (v := false) ka5
          have b6 : But d H3 (upd H5 d (NObj P w d (putN xs (sc', ((m + 1 : Nat) : Int)) q2 false))) := (But.of (s4.trans s5)).trans But.up
          have kr6 : KR most (signsOf names rows) names.length (putN xs (sc', ((m + 1 : Nat) : Int)) q2 false) m := (kr.le (by omega)).put hm1 sc
          have v6 : valN (putN xs (sc', ((m + 1 : Nat) : Int)) q2 false) (sc', ((m + 1 : Nat) : Int)) = some false := by rw [valN_put, if_pos rfl]
          have o6 : ∀ st2 (j : Nat), m < j → ¬ (st2 = sc' ∧ j = m + 1) → valN (putN xs (sc', ((m + 1 : Nat) : Int)) q2 false) (st2, (j : Int)) = valN xs (st2, (j : Int)) := fun st2 j _ hne => by
            rw [valN_put, if_neg (fun z => hne ⟨congrArg Prod.fst z, by have := congrArg Prod.snd z; have this : (j : Int) = ((m + 1 : Nat) : Int) := this; omega⟩)]
          obtain ⟨rs, g1, g2, g3⟩ := id haA3
          have naA := g1.ne_ext hd3
          generalize putN xs (sc', ((m + 1 : Nat) : Int)) q2 false = ys0 at dn6 kr6 v6 o6 b6
          have lenS : (signsOf names rows).length = rs.length := by unfold signsOf; rw [List.length_map, g2]
          have sl := wf.sl
          refine ⟨_, rfl, _, _, rfl, .inl ⟨_, .of (g1.but naA b6), rfl⟩, _, rfl, by omega, by rw [List.length_map]; omega, ?_⟩
          have elen : (((rs.map fun r => V.ref r.2).length : Nat) : Int).toNat = (signsOf names rows).length := by rw [List.length_map, lenS, Int.toNat_natCast]
          rw [elen]
          refine for_range (lo := 0) (n := (signsOf names rows).length) (fun i σ G => ∃ v6 v7, σ = [some (.ref nA), some (.ref aA), some (.int most), some (.ref q1), some (.int ((m + 1 : Nat) : Int)), some (.ref d), v6, v7, none, none, none] ∧
            ∃ ys, But d H3 G ∧ DN P w G d ys ∧ KR most (signsOf names rows) names.length ys m ∧ valN ys (sc', ((m + 1 : Nat) : Int)) = some (((signsOf names rows).take i).any (Rt most (signsOf names rows) m sc')) ∧
            ∀ st2 (j : Nat), m < j → ¬ (st2 = sc' ∧ j = m + 1) → valN ys (st2, (j : Int)) = valN xs (st2, (j : Int))) ⟨_, _, rfl, ys0, b6, dn6, kr6, v6, o6⟩ (fun i σ G hi pr => ?_) fun σ G pr => ?_
          · obtain ⟨v6', v7, rfl, ys, bG, dG, kG, vG, oG⟩ := pr
            have hir : i < rows.length := by rw [lenS, g2] at hi; exact hi
            have hrow : rows[i]? = some rows[i] := List.getElem?_eq_getElem hir
            generalize rows[i] = row at hrow
            have es : (signsOf names rows)[i]? = some (sgOf names row) := by rw [signsOf_eq, List.getElem?_map, hrow]; rfl
            have lsg : (sgOf names row).length = names.length := List.length_map _
            have e0 : (0 : Int) + (i : Int) = ((i : Nat) : Int) := by omega
            rw [e0]
            obtain ⟨φG, hdG⟩ : ∃ φ, G d = some (.ext φ) := ⟨_, dG.ob⟩
            have rowsBut : ∀ {A B : Hp} {φ : Heap → Prop}, A d = some (.ext φ) → But d A B → RowsAt A true aA rows → RowsAt B true aA rows := fun hd b ⟨rs, a1, a2, a3⟩ => ⟨rs, a1.but (a1.ne_ext hd) b, a2, fun i r row e1 e2 => (a3 i r row e1 e2).but ((a3 i r row e1 e2).ne_ext hd) b⟩
            have hnAG := hnA3.but (hnA3.ne_ext hd3) bG
            have haAG := rowsBut hd3 bG haA3
            have eqG := bG _ _ eq1 (ne_of eq1 hd3 (fun z => nomatch z))
            refine ⟨by show 2 ≤ sizeLine; decide, fun t ht => ⟨false, t, _, rfl, .of upd_same, fun D1 hD1 => ?_⟩⟩
            have sT : Same G (upd G t (.tup [.bl true, .bl false])) := same_new ht
            have eT : (upd G t (.tup [.bl true, .bl false])) t = some (.tup [.bl true, .bl false]) := upd_same
            generalize upd G t (.tup [.bl true, .bl false]) = G1 at sT eT hD1
            refine lc_rel (walk_sqB (p := false) (xs := [V.bl true, V.bl false])) (fun j y H' => ∃ b ans, y = .ref b ∧ [true, false][j]? = some ans ∧ H' b = some (.tup ((raw (sgOf names row) ans sc').map V.int))) (by show 2 ≤ 100000; decide) hD1
              (fun j y A B h k => ?_) (fun A s => .of (s _ _ eT)) (fun j x A B hj s7 hDs y R kR => ?_) yes_mono (name_mono 9) fun G2 acc s7 hDl hal hacc => ?_
            · obtain ⟨b, ans, h1, h2, h3⟩ := h
              exact ⟨b, ans, h1, h2, k _ _ h3⟩
            · obtain ⟨e5, ex⟩ := y
              subst e5
              have ex : ([true, false].map V.bl)[j]? = some x := ex
              rw [List.getElem?_map] at ex
              obtain ⟨ans, ea, rfl⟩ := Option.map_eq_some_iff.mp ex
              obtain ⟨oD, hDs⟩ := hDs
              have sA := sT.trans s7
              refine ⟨rfl, rfl, _, rfl, _, rfl, _, rfl, _, rfl, _, rfl, nA, aA, q1, names, rows, sc', i, row, ans, rfl, hnAG.keep sA, by omega, haAG.keep sA, sA _ _ eqG, sc.len, hrow, fun b B hb0 s8 e8 => kR _ _ ⟨b, ans, rfl, ea, ?_⟩ s8⟩
              rw [hid_ne (Ne.symm (ne_of_none hDs hb0))]
              exact e8
            · have sG := sT.trans s7
              have dG2 := dG.same sG
              have bG2 := bG.trans (But.of sG)
              obtain ⟨φ2, hd2⟩ : ∃ φ, G2 d = some (.ext φ) := ⟨_, dG2.ob⟩
              have hnA2 := hnAG.keep sG
              have haA2 := haAG.keep sG
              have nD1 : D1 ≠ d := ne_of hDl hd2 (fun z => nomatch z)
              show tSeq _ _ _ _ _
              refine ⟨_, rfl, true, D1, _, rfl, .of hDl, fun D2 hD2 => ?_⟩
              refine lc_it (walk_sqB (p := true) (xs := acc)) (fun j G4 => ∃ zs, But d G2 G4 ∧ DN P w G4 d zs ∧ KR most (signsOf names rows) names.length zs m ∧ (∀ st2 (j : Nat), m < j → valN zs (st2, (j : Int)) = valN ys (st2, (j : Int))) ∧
                G4 D2 = some (.lst ((([true, false].take j).map fun ans => En most (signsOf names rows) m (aft most (sgOf names row) ans sc')).map V.bl))) ⟨ys, But.of (same_new hD2), dG2.same (same_new hD2), kG, fun _ _ _ => rfl, upd_same⟩ (fun j G4 _ pr => ?_) (fun j x G4 G5 hj pr y => ?_) fun G4 pr => ?_
              · obtain ⟨zs, b4, _⟩ := pr
                exact .of (b4 _ _ hDl nD1)
              · obtain ⟨zs, b4, d4, k4, o4, l4⟩ := pr
                obtain ⟨e5, ex⟩ := y
                subst e5
                obtain ⟨b, ans, rfl, ea, hb⟩ := hacc j x ex
                have hb4 := b4 _ _ hb (ne_of hb hd2 (fun z => nomatch z))
                obtain ⟨φ4, hd4⟩ : ∃ φ, G5 d = some (.ext φ) := ⟨_, d4.ob⟩
                have nD2 : D2 ≠ d := ne_of l4 hd4 (fun z => nomatch z)
                refine ⟨rfl, _, rfl, _, rfl, _, rfl, _, rfl, _, rfl, _, _, rfl, rfl, _, rfl, m, hmM, nA, aA, b, d, raw (sgOf names row) ans sc', zs, by show [V.ref nA, V.ref aA, V.int most, V.ref b, V.int (((m + 1 : Nat) : Int) - 1), V.ref d] = _; rw [em],
                  hnA2.but (hnA2.ne_ext hd2) b4, rowsBut hd2 b4 haA2, hb4, by rw [raw_len (by rw [lsg, sc.len])]; exact sc.len, raw_nn sc.lo, d4, k4, fun zs' G6 b6 d6 k6 o6 => ?_⟩
                rw [clamp_raw, scl]
                have l6 := b6 _ _ l4 nD2
                have et : [true, false].take (j + 1) = [true, false].take j ++ [ans] := by rw [List.take_add_one, ea]; rfl
                refine ⟨_, l6, ?_, zs', fun c o e n => ?_, d6.upL l6, k6, fun st2 j hj => (o6 st2 j hj).trans (o4 st2 j hj), ?_⟩
                · rw [List.length_map, List.length_map, List.length_take]
                  have : [true, false].length = 2 := rfl
                  omega
                · rw [upd_ne (ne_of_none e hD2)]
                  exact b6 _ _ (b4 _ _ e n) n
                · rw [upd_same, et, List.map_append, List.map_append]
                  rfl
              · obtain ⟨zs, b4, d4, k4, o4, l4⟩ := pr
                rw [hal] at l4
                have l4 : G4 D2 = some (.lst ([En most (signsOf names rows) m (aft most (sgOf names row) true sc'), En most (signsOf names rows) m (aft most (sgOf names row) false sc')].map V.bl)) := l4
                refine ⟨D2, _, rfl, .of l4, _, rfl, ?_⟩
                have er : [En most (signsOf names rows) m (aft most (sgOf names row) true sc'), En most (signsOf names rows) m (aft most (sgOf names row) false sc')].all id = Rt most (signsOf names rows) m sc' (sgOf names row) := by
                  unfold Rt
                  simp
                rw [er]
                have ean : ((signsOf names rows).take (i + 1)).any (Rt most (signsOf names rows) m sc') = (((signsOf names rows).take i).any (Rt most (signsOf names rows) m sc') || Rt most (signsOf names rows) m sc' (sgOf names row)) := by
                  rw [List.take_add_one, es, List.any_append]
                  simp
                have b34 := bG2.trans b4
                have v4 := (o4 sc' (m + 1) (Nat.lt_succ_self m)).trans vG
                have oo : ∀ st2 (j : Nat), m < j → ¬ (st2 = sc' ∧ j = m + 1) → valN zs (st2, (j : Int)) = valN xs (st2, (j : Int)) := fun st2 j h1 h2 => (o4 st2 j h1).trans (oG st2 j h1 h2)
                by_cases hR : Rt most (signsOf names rows) m sc' (sgOf names row) = true
                · rw [hR]
                  refine iteT ⟨_, rfl, _, rfl, _, rfl, by show 2 ≤ sizeLine; decide, fun q3 hq3 => ?_⟩
                  have s8 : Same G4 (upd G4 q3 (.tup [.ref q1, .int ((m + 1 : Nat) : Int)])) := same_new hq3
                  have ka8 := key_at (upd_same (H := G4) (a := q3) (o := HO.tup [.ref q1, .int ((m + 1 : Nat) : Int)])) (s8 _ _ (b34 _ _ eq1 (ne_of eq1 hd3 (fun z => nomatch z))))
                  have d8 := d4.same s8
                  refine ⟨d, q3, (sc', ((m + 1 : Nat) : Int)), zs, true, rfl, rfl, rfl, ka8, d8, k4.few n7 wf.mo d4.nd, ?_⟩
                  refine ⟨_, _, rfl, _, (b34.trans (But.of s8)).trans But.up, d8.put ka8, k4.put hm1 sc, ?_, fun st2 j h1 h2 => ?_⟩
                  · rw [valN_put, if_pos rfl, ean, hR, Bool.or_true]
                  · rw [valN_put, if_neg (fun z => h2 ⟨congrArg Prod.fst z, by have := congrArg Prod.snd z; have this : (j : Int) = ((m + 1 : Nat) : Int) := this; omega⟩)]
                    exact oo st2 j h1 h2
                · have hR' : Rt most (signsOf names rows) m sc' (sgOf names row) = false := by simpa using hR
                  rw [hR']
                  exact iteF ⟨_, _, rfl, zs, b34, d4, k4, by rw [ean, hR', Bool.or_false]; exact v4, oo⟩
          · obtain ⟨v6', v7, rfl, ys, bG, dG, kG, vG, oG⟩ := pr
            rw [List.take_length] at vG
            refine ⟨_, rfl, _, _, rfl, rfl, _, rfl, ?_⟩
            rw [decide_eq_true (show (0 : Int) < ((m + 1 : Nat) : Int) by omega)]
            refine iteT (fin _ G ys rfl rfl rfl bG dG ⟨kG.form, fun st2 j v e hj => ?_⟩ ⟨_, vG⟩ fun st2 j hj => oG st2 j (by omega) fun z => by omega)
            by_cases hjm : j ≤ m
            · exact kG.right _ _ _ e hjm
            · have ej : j = m + 1 := by omega
              subst ej
              by_cases es : st2 = sc'
              · subst es
                rw [vG] at e
                cases e
                rw [En_big hn']
              · rw [oG st2 (m + 1) (by omega) fun z => es z.1] at e
                exact kr.right _ _ _ e (Nat.le_refl _)
theorem ok_le (T : TX K mg) (wf : WF names.length most (signsOf names rows)) : ∀ M : Nat, M < 64 → Ok P w K mg base (M + 2) ("_law_m_is_enough", none) pLE [] (spLE P w names rows most M)
  | 0, _ => ok_le0 T wf
  | M + 1, h => ok_leS T wf M h (ok_le T wf M (by omega))
end
end My

set_option Elab.async false
set_option linter.all false
set_option maxRecDepth 100000
set_option maxHeartbeats 4000000
namespace My
open PySem PySem.Spec PyProof.Rows L2
def colOf (rows : List (List Str)) (nm : Str) : List Bool := rows.map fun row => decide (nm ∈ row)
def colD (c : List Bool) : PyData := .list (c.map PyData.bool)
theorem eqv_bools : ∀ a b : List Bool, PyData.eqvAll (a.map PyData.bool) (b.map PyData.bool) = decide (a = b)
  | [], [] => by rw [List.map_nil, PyData.eqvAll]; rfl
  | [], _ :: _ => by rw [List.map_nil, List.map_cons, PyData.eqvAll]; rfl
  | _ :: _, [] => by rw [List.map_nil, List.map_cons, PyData.eqvAll]; rfl
  | x :: a, y :: b => by
    rw [List.map_cons, List.map_cons, PyData.eqvAll, eqv_bools a b, PyData.eqv]
    cases x <;> cases y <;> simp
theorem eqv_colD (a b : List Bool) : PyData.eqv (colD a) (colD b) = decide (a = b) := by
  unfold colD
  rw [PyData.eqv]
  exact eqv_bools a b
theorem bools_sh (c : List Bool) : PyData.canLayAll0 (c.map PyData.bool) = true ∧ PyData.depthAll (c.map PyData.bool) ≤ 0 := all_sh _ fun d hd => by
  obtain ⟨z, _, rfl⟩ := List.mem_map.mp hd
  exact ⟨by rw [PyData.canLay0], by rw [PyData.depth]; exact Nat.le_refl _⟩
theorem colD_sh (c : List Bool) : (colD c).canLay0 = true ∧ (colD c).depth ≤ 1 := by
  obtain ⟨a, b⟩ := bools_sh c
  unfold colD
  exact ⟨by rw [PyData.canLay0]; exact a, by rw [PyData.depth]; omega⟩
theorem cols_shaped (cs : List (List Bool)) : SeqAt.shaped (.list (cs.map colD)) = true := (sh_seq (k := 1) (by decide) fun d hd => by
  obtain ⟨z, _, rfl⟩ := List.mem_map.mp hd
  exact colD_sh z).1
theorem col_shaped (c : List Bool) : SeqAt.shaped (colD c) = true := by
  have := colD_sh c
  unfold SeqAt.shaped
  rw [this.1, Bool.true_and]
  exact decide_eq_true (by omega)
theorem dp_bools {K : PySem.W.Frag} {H : Hp} : ∀ zs : List Bool, DpAll K H (zs.map V.bl) (zs.map PyData.bool)
  | [] => .nil
  | z :: r => .cons (.bl z) (dp_bools r)
theorem dpAll_of {K : PySem.W.Frag} {H : Hp} : ∀ {vs : List V} {ds : List PyData}, vs.length = ds.length → (∀ (j : Nat) v d, vs[j]? = some v → ds[j]? = some d → Dp K H v d) → DpAll K H vs ds
  | [], [], _, _ => .nil
  | [], _ :: _, h, _ => by cases h
  | _ :: _, [], h, _ => by cases h
  | v :: vs, d :: ds, h, f => .cons (f 0 v d rfl rfl) (dpAll_of (by simpa using h) fun j v' d' e1 e2 => f (j + 1) v' d' (by simpa using e1) (by simpa using e2))
def dupAt (cols : List (List Bool)) (i : Nat) : Bool := match cols[i]? with
  | some c => (cols.take i).any fun z => decide (z = c)
  | none => false
theorem parted_iff {names : List Str} {rows : List (List Str)} : Parted names.length (signsOf names rows) ↔ ∀ i < names.length, dupAt (names.map (colOf rows)) i = false := by
  have key : ∀ {a b : Nat} {x y : Str}, names[a]? = some x → names[b]? = some y → ((∃ r ∈ signsOf names rows, r[a]? ≠ r[b]?) ↔ colOf rows x ≠ colOf rows y) := fun {a b x y} ea eb => by
    constructor
    · rintro ⟨r, hr, hne⟩ e
      rw [signsOf_eq] at hr
      obtain ⟨row, hrow, rfl⟩ := List.mem_map.mp hr
      unfold sgOf at hne
      rw [List.getElem?_map, List.getElem?_map, ea, eb] at hne
      unfold colOf at e
      have := List.map_inj_left.mp e row hrow
      exact hne (congrArg some this)
    · intro hne
      by_cases hall : ∀ row ∈ rows, decide (x ∈ row) = decide (y ∈ row)
      · exact absurd (List.map_congr_left hall) hne
      · have : ∃ row, row ∈ rows ∧ decide (x ∈ row) ≠ decide (y ∈ row) := by
          refine Classical.byContradiction fun h => hall fun row hr => ?_
          exact Classical.byContradiction fun h2 => h ⟨row, hr, h2⟩
        obtain ⟨row, hr, h2⟩ := this
        refine ⟨sgOf names row, by rw [signsOf_eq]; exact List.mem_map_of_mem hr, ?_⟩
        unfold sgOf
        rw [List.getElem?_map, List.getElem?_map, ea, eb]
        exact fun e => h2 (Option.some.inj e)
  constructor
  · intro h i hi
    have ei : names[i]? = some names[i] := List.getElem?_eq_getElem hi
    generalize names[i] = y at ei
    unfold dupAt
    rw [List.getElem?_map, ei]
    show ((names.map (colOf rows)).take i).any _ = false
    rw [List.any_eq_false]
    intro c hc hdc
    obtain ⟨a, ha⟩ := List.mem_iff_getElem?.mp hc
    rw [List.getElem?_take] at ha
    split at ha
    · rename_i hai
      rw [List.getElem?_map] at ha
      obtain ⟨x, ex, rfl⟩ := Option.map_eq_some_iff.mp ha
      exact (key ex ei).mp (h a i hai hi) (of_decide_eq_true hdc)
    · cases ha
  · intro h a b hab hb
    have eb : names[b]? = some names[b] := List.getElem?_eq_getElem hb
    have ea : names[a]? = some (names[a]'(by omega)) := List.getElem?_eq_getElem (by omega)
    refine (key ea eb).mpr fun e => ?_
    have hd := h b hb
    unfold dupAt at hd
    rw [List.getElem?_map, eb] at hd
    have hd : ((names.map (colOf rows)).take b).any (fun z => decide (z = colOf rows names[b])) = false := hd
    rw [List.any_eq_false] at hd
    have hm : colOf rows (names[a]'(by omega)) ∈ (names.map (colOf rows)).take b := by
      refine List.mem_iff_getElem?.mpr ⟨a, ?_⟩
      rw [List.getElem?_take, if_pos hab, List.getElem?_map, ea]
      rfl
    exact hd _ hm (decide_eq_true e)
theorem left_st0 {names : List Str} {most : Int} (hm : 0 ≤ most) : left names most (st0 names.length) = names := by
  unfold left st0
  induction names with
  | nil => rfl
  | cons x r ih =>
    rw [List.length_cons, List.replicate_succ, List.zip_cons_cons, List.filterMap_cons]
    simp only [hm, if_true]
    rw [ih]
def spLFew : Sp := fun vs H Q _ => ∃ nA aA sa names rows, ∃ most : Int, vs = [.ref nA, .ref aA, .int most, .ref sa] ∧ SeqH H true nA (names.map V.str) ∧ RowsAt H true aA rows ∧ H sa = some (.tup ((st0 names.length).map V.int)) ∧ WF names.length most (signsOf names rows) ∧
  ∀ v H', Same H H' → FewV names most (signsOf names rows) v → Q v H'
abbrev nLF : List Str := ["_law_names", "_law_askings", "_law_lies", "_law_state", "_law_left", "_law_known", "_law_signs", "_law_many", "_law_name", "_law_row", "_law_at", "_law_sign"]
theorem sc_lf : FnScope nLF ["_law_names", "_law_askings", "_law_lies", "_law_state"] (defScope s__law_m_fewest) := ⟨rfl, rfl, rfl, by decide +kernel, rfl, by decide +kernel, by decide +kernel⟩
section
variable {P : Program} {w : World} {K : PySem.W.Frag} {mg : Str → Option Value} {base : Heap}
theorem ok_lf (T : TX K mg) : Ok P w K mg base 24 ("_law_m_fewest", none) ["_law_names", "_law_askings", "_law_lies", "_law_state"] [] spLFew := by
  refine ok_def (d := d__law_m_fewest) T.fd_d__law_m_fewest rfl rfl sc_lf (fun _ _ _ _ _ _ us hl => match us, hl with | [_, _, _, _], _ => rfl) (fun vs H Q E h => ?_) fun cdv A outer s H vs Q E hr h => ?_
  · obtain ⟨_, _, _, _, _, _, rfl, _⟩ := h
    rfl
  · obtain ⟨nA, aA, sa, names, rows, most, rfl, hnA, haA, hsa, wf, k⟩ := h
    have n7 := wf.n7
    have n0 := wf.n0
    have hu65 : (A.deeper (envOfC d__law_m_fewest.qual d__law_m_fewest.scope s.heap.objs.size (He.fAd K d__law_m_fewest.at_) cdv)).units + 65 < cLine := by have := hr.un; omega
    refine ⟨_, pss_cons (ps_par (i := 4) (j := 5) rfl sc_lf.nd rfl rfl (by decide) rfl rfl (pa_cons (pe_f (ok_lleft T) hr (by decide) T.g__law_m_left (by rfl) (pa_cons (pv 0) (pa_cons (pv 3) (pa_cons (pv 2) pa_nil)))) (pa_cons pe_newN pa_nil)) (by rfl))
      (pss_cons (ps_set (i := 6) sc_lf.nd rfl (Or.inr rfl) (pe_lc (own := [("_law_name", 8)]) (g := gName 8) (tt := tYes) (te := tLc (iSqB K (tVar 1)) (gName 9) tYes (tOp (rIn K false) (tVar 8) (tVar 9)) [9]) rfl sc_lf.nd (pi_sqB (pv 4))
          (blkOk_by (N := nLF) (sc := defScope s__law_m_fewest) (by decide +kernel)) (fun _ _ _ _ _ => pg_name (i := 8) sc_lf.nd rfl (Or.inr rfl)) (fun _ _ _ _ _ => pts_nil)
          (fun _ _ _ _ _ => pe_lc (own := [("_law_row", 9)]) (g := gName 9) (tt := tYes) (te := tOp (rIn K false) (tVar 8) (tVar 9)) rfl sc_lf.nd (pi_sqB (pv 1))
            (blkOk_by (N := nLF) (sc := relS (lcScope (stE (stAt (defBody s__law_m_fewest) 1))) (defScope s__law_m_fewest)) (by decide +kernel)) (fun _ _ _ _ _ => pg_name (i := 9) sc_lf.nd rfl (Or.inl rfl)) (fun _ _ _ _ _ => pts_nil)
            (fun _ _ _ _ _ => pe_cmpR op_in_seq (pv 8) (pv 9) rfl))))
      (pss_cons (ps_if (pt_val (pe_callB (cr_any rfl) (by rfl) T.f_any b_any (pa_cons (pe_lc (own := [("_law_at", 10), ("_law_sign", 11)]) (g := gTup K 2 (gCons (gName 10) (gCons (gName 11) gNil))) (tt := tYes) (te := tOp (rInD K) (tVar 11) (tSl rSlB (tVar 6) tNoPart (tPart (tVar 10)))) rfl sc_lf.nd
          (pi_enumB (by rfl) T.f_enumerate (pa_cons (pv 6) pa_nil)) (blkOk_by (N := nLF) (sc := defScope s__law_m_fewest) (by decide +kernel))
          (fun _ _ _ _ _ => pg_tup rfl (pgs_cons (pg_name (i := 10) sc_lf.nd rfl (Or.inl rfl)) (pgs_cons (pg_name (i := 11) sc_lf.nd rfl (Or.inl rfl)) pgs_nil))) (fun _ _ _ _ _ => pts_nil)
          (fun _ _ _ _ _ => pe_cmpR (op_inD hu65) (pv 11) (pe_slice sl_B (pv 6) po_none (po_some (pv 10))) rfl)) pa_nil))) (pss_one (ps_ret pe_non)) pss_nil)
      (pss_cons (ps_set (i := 7) sc_lf.nd rfl (Or.inl rfl) pe_int)
      (pss_cons (ps_while PassesOwn.never (pt_not (pt_val (pe_f (ok_le T wf 21 (by decide)) hr (by decide) T.g__law_m_is_enough (by rfl) (pa_cons (pv 0) (pa_cons (pv 1) (pa_cons (pv 2) (pa_cons (pv 3) (pa_cons (pv 7) (pa_cons (pv 5) pa_nil)))))))))
        (pss_one (ps_set (i := 7) sc_lf.nd rfl (Or.inl rfl) (pe_op op_add (pv 7) pe_int))))
      (pss_one (ps_ret (pv 7))))))), ?_⟩
    obtain ⟨rs, g1, g2, g3⟩ := id haA
    refine ⟨_, rfl, _, rfl, _, rfl, nA, sa, names, st0 names.length, most, rfl, hnA, by omega, hsa, List.length_replicate, fun l H1 hl s1 e1 => ?_⟩
    rw [left_st0 wf.nn] at e1
    intro d hd sm
    refine ⟨_, _, rfl, ?_⟩
    have s2 : Same H1 (upd H1 d (NObj P w d [])) := same_new hd
    have dn2 : DN P w (upd H1 d (NObj P w d [])) d [] := DN.new sm
    have s12 := s1.trans s2
    have hd0 : H d = none := s1.free hd
    refine ⟨_, rfl, true, l, _, rfl, .of (s2 _ _ e1), fun D hD => lc_rel (walk_sqB (p := true) (xs := names.map V.str)) (fun i y H' => ∃ b nm, y = .ref b ∧ names[i]? = some nm ∧ H' b = some (.lst ((colOf rows nm).map V.bl)))
      (by rw [List.length_map]; omega) hD (fun i y A B h k => ?_) (fun A s => .of (s _ _ (s2 _ _ e1))) (fun i x A B hi s5 hDs y R kR => ?_) yes_mono (name_mono 8) fun G acc s5 hDl hal hacc => ?_⟩
    · obtain ⟨b, nm, h1, h2, h3⟩ := h
      exact ⟨b, nm, h1, h2, k _ _ h3⟩
    · obtain ⟨e5, ex⟩ := y
      subst e5
      rw [List.getElem?_map] at ex
      obtain ⟨nm, en, rfl⟩ := Option.map_eq_some_iff.mp ex
      obtain ⟨oD, hDs⟩ := hDs
      have sA := s12.trans s5
      refine ⟨rfl, rfl, _, rfl, true, aA, _, rfl, (g1.keep sA).sqb, fun D2 hD2 => ?_⟩
      refine lc_fm (walk_sqB (p := true) (xs := rs.map fun r => V.ref r.2)) (fun j => (rows[j]?).map fun row => V.bl (decide (nm ∈ row))) (by rw [List.length_map]; have := wf.sl; unfold signsOf at this; rw [List.length_map] at this; omega) hD2 (fun A2 s6 => (g1.keep (sA.trans s6)).sqb) (fun j x2 A2 A3 hj s6 y2 R2 N2 kR2 kN2 => ?_) fun A2 s6 h6 => ?_
      · obtain ⟨e7, ex2⟩ := y2
        subst e7
        rw [List.getElem?_map] at ex2
        obtain ⟨r, er, rfl⟩ := Option.map_eq_some_iff.mp ex2
        have hjr : j < rows.length := by rw [← g2]; exact (List.getElem?_eq_some_iff.mp er).1
        have e8 : rows[j]? = some rows[j] := List.getElem?_eq_getElem hjr
        generalize rows[j] = row at e8
        have hsr := (g3 j r row er e8).keep (sA.trans s6)
        refine ⟨rfl, _, rfl, _, rfl, r.2, _, rfl, hsr.or, rfl, flat_strs _, ?_⟩
        show R2 (.bl (inV (.str nm) (row.map V.str))) _
        rw [inV_mem]
        exact kR2 _ _ (by rw [e8]; rfl) (Same.refl _)
      · rw [List.length_map, g2, fm_map] at h6
        refine kR _ _ ⟨D2, nm, rfl, en, ?_⟩ s6
        rw [hid_ne (Ne.symm (ne_of_none hDs hD2)), h6]
        unfold colOf
        rw [List.map_map]
        rfl
    · rw [List.length_map] at hal
      have sG := s12.trans s5
      have dnG := dn2.same s5
      obtain ⟨φG, hdG⟩ : ∃ φ, G d = some (.ext φ) := ⟨_, dnG.ob⟩
      refine ⟨_, rfl, true, D, acc, rfl, .of hDl, fun D3 hD3 => lc_fm (walk_enumB (p := true) (xs := acc)) (fun j => some (V.bl (dupAt (names.map (colOf rows)) j))) (by omega) hD3 (fun A s => .of (s _ _ hDl)) (fun j x A B hj s6 y R N kR kN => ?_) fun G2 s6 h6 => ?_⟩
      · obtain ⟨t, x1, x2, rfl, ht, rfl, e1', e2'⟩ := y
        cases e1'
        have e2' : acc[j]? = some x2 := e2'
        obtain ⟨b, nm, rfl, en, hb⟩ := hacc j x2 e2'
        have s7 : Same A (upd A t (.tup [.int (j : Nat), .ref b])) := same_new ht
        have s67 := s6.trans s7
        refine ⟨t, _, rfl, .of upd_same, rfl, _, _, rfl, _, _, rfl, rfl, rfl, ?_⟩
        refine ⟨_, rfl, _, rfl, _, rfl, _, rfl, true, D, acc, rfl, s67 _ _ hDl, fun b' B s8 hb' => ?_⟩
        have s68 := s67.trans s8
        rw [cut_take] at hb'
        have dps : DpAll K B (acc.take j) (((names.map (colOf rows)).take j).map colD) := dpAll_of (by rw [List.length_take, List.length_map, List.length_take, List.length_map, hal]) fun i v dd a1 a2 => by
          rw [List.getElem?_take] at a1
          rw [List.getElem?_map, List.getElem?_take] at a2
          split at a1
          · rename_i hij
            rw [if_pos hij] at a2
            obtain ⟨b2, nm2, rfl, en2, hb2⟩ := hacc i v a1
            rw [List.getElem?_map, en2] at a2
            cases a2
            exact .lst (.of (s68 _ _ hb2)) (dp_bools _)
          · cases a1
        refine ⟨colD (colOf rows nm), ((names.map (colOf rows)).take j).map colD, .lst (.of (s68 _ _ hb)) (dp_bools _), .lst (.of hb') dps, col_shaped _, cols_shaped _, kR _ _ ?_ (s7.trans s8)⟩
        have ed : dupAt (names.map (colOf rows)) j = (((names.map (colOf rows)).take j).map colD).any fun z => PyData.eqv z (colD (colOf rows nm)) := by
          unfold dupAt
          rw [List.getElem?_map, en, List.any_map]
          show ((names.map (colOf rows)).take j).any _ = ((names.map (colOf rows)).take j).any _
          congr 1
          funext z
          exact (eqv_colD _ _).symm
        rw [ed]
      · rw [hal] at h6
        have sG2 := sG.trans s6
        have e6 : (List.range names.length).filterMap (fun j => some (V.bl (dupAt (names.map (colOf rows)) j))) = ((List.range names.length).map (dupAt (names.map (colOf rows)))).map V.bl := by
          rw [List.map_map]
          exact congrFun (List.filterMap_eq_map (f := fun j => V.bl (dupAt (names.map (colOf rows)) j))) (List.range names.length)
        rw [e6] at h6
        refine ⟨D3, _, rfl, .of h6, _, rfl, ?_⟩
        by_cases hall : ∀ i < names.length, dupAt (names.map (colOf rows)) i = false
        · have hp := parted_iff.mpr hall
          have ea : ((List.range names.length).map (dupAt (names.map (colOf rows)))).any id = false := by
            rw [List.any_map, List.any_eq_false]
            intro i hi q
            have := hall i (List.mem_range.mp hi)
            rw [show dupAt (names.map (colOf rows)) i = true from q] at this
            cases this
          rw [ea]
          refine iteF ?_
          have dn3 := dnG.same s6
          obtain ⟨φ2, hd2⟩ : ∃ φ, G2 d = some (.ext φ) := ⟨_, dn3.ob⟩
          obtain ⟨top, ht⟩ : ∃ top : Nat, (top : Int) = (1 + 2 * most) * (names.length : Int) := ⟨((1 + 2 * most) * (names.length : Int)).toNat, by rcases wf.mo with e | e <;> subst e <;> omega⟩
          have t21 : top ≤ 21 := by rcases wf.mo with e | e <;> subst e <;> omega
          have hE := En_top wf hp ht
          refine ⟨fun μ σ B => ∃ (m : Nat) (ys : List NE), σ = [some (.ref nA), some (.ref aA), some (.int most), some (.ref sa), some (.ref l), some (.ref d), some (.ref D), some (.int (m : Nat)), none, none, none, none] ∧ μ = 21 - m ∧ m ≤ top ∧ But d G2 B ∧ DN P w B d ys ∧ KR most (signsOf names rows) names.length ys m ∧
            (∀ st2 (j : Nat), m < j → valN ys (st2, (j : Int)) = none) ∧ ∀ j < m, En most (signsOf names rows) j (st0 names.length) = false, ⟨_, 0, [], rfl, rfl, Nat.zero_le _, But.refl _ _, dn3, ⟨(fun _ h => nomatch h), fun _ _ _ h => nomatch h⟩, fun _ _ _ => rfl, fun j hj => absurd hj (Nat.not_lt_zero _)⟩, fun μ σ B pr => ?_⟩
          obtain ⟨m, ys, rfl, rfl, hmt, bB, dB, kB, oB, nB⟩ := pr
          refine ⟨_, rfl, _, rfl, _, rfl, _, rfl, _, rfl, _, rfl, m, by omega, nA, aA, sa, d, st0 names.length, ys, rfl, (hnA.keep sG2).but ((hnA.keep sG2).ne_ext hd2) bB, ?_, bB _ _ (sG2 _ _ hsa) (ne_of (sG2 _ _ hsa) hd2 (fun z => nomatch z)), List.length_replicate, (fun x hx => by have := List.eq_of_mem_replicate hx; omega), dB, kB, fun ys' B' b' d' k' o' => ⟨_, rfl, ?_⟩⟩
          · obtain ⟨rs, a1, a2, a3⟩ := haA.keep sG2
            exact ⟨rs, a1.but (a1.ne_ext hd2) bB, a2, fun i r row e1 e2 => (a3 i r row e1 e2).but ((a3 i r row e1 e2).ne_ext hd2) bB⟩
          · rw [clamp_st0 wf.nn]
            by_cases hm : En most (signsOf names rows) m (st0 names.length) = true
            · rw [hm]
              exact iteF ⟨_, rfl, k _ _ (same_but sG2 hd0 (bB.trans b')) (.inr ⟨hp, m, by omega, rfl, hm, nB⟩)⟩
            · have hm' : En most (signsOf names rows) m (st0 names.length) = false := by simpa using hm
              have hne : m ≠ top := fun z => by rw [z] at hm'; rw [hE] at hm'; cases hm'
              rw [hm']
              refine iteT ⟨fun σ B2 => ∃ zs : List NE, σ = [some (.ref nA), some (.ref aA), some (.int most), some (.ref sa), some (.ref l), some (.ref d), some (.ref D), some (.int ((m + 1 : Nat) : Int)), none, none, none, none] ∧ But d G2 B2 ∧ DN P w B2 d zs ∧ KR most (signsOf names rows) names.length zs (m + 1) ∧
                (∀ st2 (j : Nat), m + 1 < j → valN zs (st2, (j : Int)) = none), fun σ' B2 pr => ?_, ?_⟩
              · obtain ⟨zs, rfl, a1, a2, a3, a4⟩ := pr
                refine ⟨21 - (m + 1), by omega, m + 1, zs, rfl, rfl, by omega, a1, a2, a3, a4, fun j hj => ?_⟩
                by_cases q : j < m
                · exact nB j q
                · have : j = m := by omega
                  rw [this]; exact hm'
              · refine ⟨_, rfl, _, _, rfl, rfl, ys', rfl, bB.trans b', d', ⟨k'.form, fun st2 j v e hj => ?_⟩, fun st2 j hj => (o' st2 j (by omega)).trans (oB st2 j (by omega))⟩
                by_cases q : j ≤ m
                · exact k'.right _ _ _ e q
                · rw [o' st2 j (by omega), oB st2 j (by omega)] at e
                  cases e
        · have hp : ¬ Parted names.length (signsOf names rows) := fun h => hall (parted_iff.mp h)
          have ea : ((List.range names.length).map (dupAt (names.map (colOf rows)))).any id = true := by
            rw [List.any_map, List.any_eq_true]
            refine Classical.byContradiction fun h => hall fun i hi => ?_
            cases q : dupAt (names.map (colOf rows)) i with
            | false => rfl
            | true => exact absurd ⟨i, List.mem_range.mpr hi, q⟩ h
          rw [ea]
          exact iteT (k _ _ sG2 (.inl ⟨rfl, hp⟩))
end
end My

set_option Elab.async false
set_option linter.all false
set_option maxRecDepth 100000
set_option maxHeartbeats 4000000
namespace My
open PySem PySem.Spec PyProof.Rows L2
def spHeight (N : Nat) : Sp := fun vs H Q _ => ∃ t v, height t ≤ N ∧ vs = [v] ∧ TrAt H v t ∧ ∀ H', Same H H' → Q (.int (height t : Nat)) H'
def spTold (N : Nat) : Sp := fun vs H Q _ => ∃ t v, height t ≤ N ∧ vs = [v] ∧ TrAt H v t ∧ ∀ H', Same H H' → Q (.bl true) H'
def tNo : TE := fun _ _ _ => False
theorem pe_no {X : Cx} {e : Expr} : PE X e tNo := ⟨fun _ _ _ _ _ _ h => False.elim h⟩
section
variable {P : Program} {w : World} {K : PySem.W.Frag} {mg : Str → Option Value} {base : Heap}
theorem sc_height : FnScope ["_law_tree"] ["_law_tree"] (defScope s__law_m_height) := ⟨rfl, rfl, rfl, by decide +kernel, rfl, by decide +kernel, by decide +kernel⟩
theorem ok_height (T : TX K mg) : ∀ N : Nat, Ok P w K mg base (N + 1) ("_law_m_height", none) ["_law_tree"] [] (spHeight N) := by
  intro N
  induction N with
  | zero =>
    refine ok_def (d := d__law_m_height) T.fd_d__law_m_height rfl rfl sc_height (fun _ _ _ _ _ _ us hl => match us, hl with | [_], _ => rfl) (fun vs H Q E h => ?_) fun cdv A outer s H vs Q E hr h => ?_
    · obtain ⟨_, _, _, rfl, _⟩ := h
      rfl
    · obtain ⟨t, v, hN, rfl, tv, k⟩ := h
      refine ⟨_, pss_one (ps_ret (pe_ifExp (PW.pt (pw_or (pt_cmpR op_isN (pv 0) pe_non rfl) (pw_or1 (pt_val (pe_callB call_isi (by rfl) T.f_isinstance b_isinstance (pa_cons (pv 0) (pa_cons (pe_bltn (v := .ty "str") (by rfl) T.f_str b_str rfl) pa_nil))))))) pe_int pe_no)), ?_⟩
      match t, tv with
      | .non, tv =>
        cases (show v = .non from tv)
        exact ⟨_, rfl, rfl, _, rfl, iteT (iteT (k H (Same.refl H)))⟩
      | .nm z, tv =>
        cases (show v = .str z from tv)
        exact ⟨_, rfl, rfl, _, rfl, iteF ⟨_, rfl, .str z, _, _, _, true, rfl, .ty "str", .base (.str z), kit_ty (by decide +kernel), _, rfl, iteT (k H (Same.refl H))⟩⟩
      | .nd i a b, tv => exact absurd hN (by show ¬ 1 + max _ _ ≤ 0; omega)
  | succ N ih =>
    refine ok_def (d := d__law_m_height) T.fd_d__law_m_height rfl rfl sc_height (fun _ _ _ _ _ _ us hl => match us, hl with | [_], _ => rfl) (fun vs H Q E h => ?_) fun cdv A outer s H vs Q E hr h => ?_
    · obtain ⟨_, _, _, rfl, _⟩ := h
      rfl
    · obtain ⟨t, v, hN, rfl, tv, k⟩ := h
      refine ⟨_, pss_one (ps_ret (pe_ifExp (PW.pt (pw_or (pt_cmpR op_isN (pv 0) pe_non rfl) (pw_or1 (pt_val (pe_callB call_isi (by rfl) T.f_isinstance b_isinstance (pa_cons (pv 0) (pa_cons (pe_bltn (v := .ty "str") (by rfl) T.f_str b_str rfl) pa_nil))))))) pe_int
        (pe_op op_add pe_int (pe_callB (call_max2 rfl) (by rfl) T.f_max b_max (pa_cons (pe_f ih hr (Nat.le_refl _) T.g__law_m_height (by rfl) (pa_cons (pe_ix ix_tup (pv 0) pe_int (fun _ _ => rfl)) pa_nil)) (pa_cons (pe_f ih hr (Nat.le_refl _) T.g__law_m_height (by rfl) (pa_cons (pe_ix ix_tup (pv 0) pe_int (fun _ _ => rfl)) pa_nil)) pa_nil)))))), ?_⟩
      match t, tv with
      | .non, tv =>
        cases (show v = .non from tv)
        exact ⟨_, rfl, rfl, _, rfl, iteT (iteT (k H (Same.refl H)))⟩
      | .nm z, tv =>
        cases (show v = .str z from tv)
        exact ⟨_, rfl, rfl, _, rfl, iteF ⟨_, rfl, .str z, _, _, _, true, rfl, .ty "str", .base (.str z), kit_ty (by decide +kernel), _, rfl, iteT (k H (Same.refl H))⟩⟩
      | .nd i a b, tv =>
        obtain ⟨q, va, vb, rfl, hq, ta, tb⟩ := tv
        have hab : 1 + max (height a) (height b) ≤ N + 1 := hN
        have hsq : SeqH H false q [.int (i : Nat), va, vb] := hq
        refine ⟨_, rfl, rfl, _, rfl, iteF ⟨_, rfl, .ref q, _, _, _, false, rfl, .ty "str", hsq.ty, kit_ty (by decide +kernel), _, rfl, iteF ?_⟩⟩
        refine ⟨_, rfl, q, _, _, va, rfl, rfl, .of hq, atI_nat (j := 1) rfl, a, va, by omega, rfl, ta, fun H1 s1 => ?_⟩
        refine ⟨_, rfl, q, _, _, vb, rfl, rfl, .of (s1 _ _ hq), atI_nat (j := 2) rfl, b, vb, by omega, rfl, tb.keep s1, fun H2 s2 => ?_⟩
        refine ⟨_, _, rfl, _, _, rfl, rfl, ?_⟩
        have e : (1 : Int) + (if ((height b : Nat) : Int) > ((height a : Nat) : Int) then ((height b : Nat) : Int) else ((height a : Nat) : Int)) = ((height (.nd i a b) : Nat) : Int) := by
          have : height (.nd i a b) = 1 + max (height a) (height b) := rfl
          rw [this]
          split <;> omega
        have kk := k _ (s1.trans s2)
        rw [← e] at kk
        exact kk
theorem sc_told : FnScope ["_law_tree"] ["_law_tree"] (defScope s__law_is_told) := ⟨rfl, rfl, rfl, by decide +kernel, rfl, by decide +kernel, by decide +kernel⟩
theorem ok_told (T : TX K mg) : ∀ N : Nat, Ok P w K mg base (N + 1) ("_law_is_told", none) ["_law_tree"] [] (spTold N) := by
  intro N
  induction N with
  | zero =>
    refine ok_def (d := d__law_is_told) T.fd_d__law_is_told rfl rfl sc_told (fun _ _ _ _ _ _ us hl => match us, hl with | [_], _ => rfl) (fun vs H Q E h => ?_) fun cdv A outer s H vs Q E hr h => ?_
    · obtain ⟨_, _, _, rfl, _⟩ := h
      rfl
    · obtain ⟨t, v, hN, rfl, tv, k⟩ := h
      refine ⟨_, pss_cons (ps_if (PW.pt (pw_or (pt_cmpR op_isN (pv 0) pe_non rfl) (pw_or1 (pt_val (pe_callB call_isi (by rfl) T.f_isinstance b_isinstance (pa_cons (pv 0) (pa_cons (pe_bltn (v := .ty "str") (by rfl) T.f_str b_str rfl) pa_nil))))))) (pss_one (ps_ret pe_bl)) pss_nil) pss_never, ?_⟩
      match t, tv with
      | .non, tv =>
        cases (show v = .non from tv)
        exact ⟨_, rfl, rfl, _, rfl, iteT (iteT (k H (Same.refl H)))⟩
      | .nm z, tv =>
        cases (show v = .str z from tv)
        exact ⟨_, rfl, rfl, _, rfl, iteF ⟨_, rfl, .str z, _, _, _, true, rfl, .ty "str", .base (.str z), kit_ty (by decide +kernel), _, rfl, iteT (k H (Same.refl H))⟩⟩
      | .nd i a b, tv => exact absurd hN (by show ¬ 1 + max _ _ ≤ 0; omega)
  | succ N ih =>
    refine ok_def (d := d__law_is_told) T.fd_d__law_is_told rfl rfl sc_told (fun _ _ _ _ _ _ us hl => match us, hl with | [_], _ => rfl) (fun vs H Q E h => ?_) fun cdv A outer s H vs Q E hr h => ?_
    · obtain ⟨_, _, _, rfl, _⟩ := h
      rfl
    · obtain ⟨t, v, hN, rfl, tv, k⟩ := h
      refine ⟨_, pss_cons (ps_if (PW.pt (pw_or (pt_cmpR op_isN (pv 0) pe_non rfl) (pw_or1 (pt_val (pe_callB call_isi (by rfl) T.f_isinstance b_isinstance (pa_cons (pv 0) (pa_cons (pe_bltn (v := .ty "str") (by rfl) T.f_str b_str rfl) pa_nil))))))) (pss_one (ps_ret pe_bl)) pss_nil)
        (pss_one (ps_ret (pe_and (pe_callB call_isi (by rfl) T.f_isinstance b_isinstance (pa_cons (pv 0) (pa_cons (pe_bltn (v := .ty "tuple") (by rfl) T.f_tuple b_tuple rfl) pa_nil)))
          (pe_and (pe_f ih hr (Nat.le_refl _) T.g__law_is_told (by rfl) (pa_cons (pe_ix ix_tup (pv 0) pe_int (fun _ _ => rfl)) pa_nil)) (pe_one (pe_f ih hr (Nat.le_refl _) T.g__law_is_told (by rfl) (pa_cons (pe_ix ix_tup (pv 0) pe_int (fun _ _ => rfl)) pa_nil))))))), ?_⟩
      match t, tv with
      | .non, tv =>
        cases (show v = .non from tv)
        exact ⟨_, rfl, rfl, _, rfl, iteT (iteT (k H (Same.refl H)))⟩
      | .nm z, tv =>
        cases (show v = .str z from tv)
        exact ⟨_, rfl, rfl, _, rfl, iteF ⟨_, rfl, .str z, _, _, _, true, rfl, .ty "str", .base (.str z), kit_ty (by decide +kernel), _, rfl, iteT (k H (Same.refl H))⟩⟩
      | .nd i a b, tv =>
        obtain ⟨q, va, vb, rfl, hq, ta, tb⟩ := tv
        have hab : 1 + max (height a) (height b) ≤ N + 1 := hN
        have hsq : SeqH H false q [.int (i : Nat), va, vb] := hq
        refine ⟨_, rfl, rfl, _, rfl, iteF ⟨_, rfl, .ref q, _, _, _, false, rfl, .ty "str", hsq.ty, kit_ty (by decide +kernel), _, rfl, iteF ?_⟩⟩
        refine ⟨_, rfl, .ref q, _, _, _, true, rfl, .ty "tuple", hsq.ty, kit_ty (by decide +kernel), _, rfl, iteT ?_⟩
        refine ⟨_, rfl, q, _, _, va, rfl, rfl, .of hq, atI_nat (j := 1) rfl, a, va, by omega, rfl, ta, fun H1 s1 => ⟨_, rfl, iteT ?_⟩⟩
        exact ⟨_, rfl, q, _, _, vb, rfl, rfl, .of (s1 _ _ hq), atI_nat (j := 2) rfl, b, vb, by omega, rfl, tb.keep s1, fun H2 s2 => k _ (s1.trans s2)⟩
end
end My

set_option Elab.async false
set_option linter.all false
set_option maxRecDepth 100000
set_option maxHeartbeats 4000000
namespace My
open PySem PySem.Spec PyProof.Rows L2
def spSame0 : Sp := fun vs H Q _ => ∃ x, vs = [x, x] ∧ (x = .non ∨ ∃ i, x = .int i) ∧ ∀ H', Same H H' → Q (.bl true) H'
def spSame1 : Sp := fun vs H Q _ => ∃ a b x, vs = [.ref a, .ref b] ∧ H a = some (.lst [x]) ∧ H b = some (.lst [x]) ∧ (x = .non ∨ ∃ i, x = .int i) ∧ ∀ H', Same H H' → Q (.bl true) H'
def spIsTree (N : Nat) : Sp := fun vs H Q _ => ∃ t, height t ≤ N ∧ ∃ nA aA sa v names rows, ∃ most : Int, ∃ st : List Int, vs = [.ref nA, .ref aA, .int most, .ref sa, v] ∧ SeqH H true nA (names.map V.str) ∧ names.length ≤ 20 ∧ RowsAt H true aA rows ∧ rows.length ≤ 20 ∧ H sa = some (.tup (st.map V.int)) ∧ st.length = names.length ∧
  (∀ z ∈ names, PyData.strOk z = true) ∧ TrAt H v t ∧ Fits names most (signsOf names rows) (clampL most st) t ∧ ∀ H', Same H H' → Q (.bl true) H'
theorem left_clamp {names : List Str} {most : Int} : ∀ (st : List Int), left names most (clampL most st) = left names most st := by
  unfold left clampL
  induction names with
  | nil => intro st; rfl
  | cons x r ih =>
    intro st
    cases st with
    | nil => rfl
    | cons w st =>
      rw [List.map_cons, List.zip_cons_cons, List.zip_cons_cons, List.filterMap_cons, List.filterMap_cons, ih st]
      by_cases h : most + 1 < w
      · have h1 : ¬ most + 1 ≤ most := by omega
        have h2 : ¬ w ≤ most := by omega
        simp only [h, if_true, h1, h2, if_false]
      · simp only [h, if_false]
section
variable {P : Program} {w : World} {K : PySem.W.Frag} {mg : Str → Option Value} {base : Heap}
abbrev nSame : List Str := ["_law_found", "_law_due", "_law_x", "_law_y"]
theorem sc_same : FnScope nSame ["_law_found", "_law_due"] (defScope s__law_same) := ⟨rfl, rfl, rfl, by decide +kernel, rfl, by decide +kernel, by decide +kernel⟩
theorem kit_f2 {t : String} (h1 : kitB t "list" = some false) (h2 : kitB t "tuple" = some false) : PySem.W.kitAny K (.type t) [.type "list", .type "tuple"] = some false :=
  kitAny_cons (b := false) (kit_ty h1) (fun _ => kitAny_cons (b := false) (kit_ty h2) (fun _ => rfl) fun h => nomatch h) fun h => nomatch h
theorem kit_f4 {t : String} (h0 : kitB t "int" = some false) (h1 : kitB t "list" = some false) (h2 : kitB t "tuple" = some false) (h3 : kitB t "dict" = some false) : PySem.W.kitAny K (.type t) [.type "int", .type "list", .type "tuple", .type "dict"] = some false :=
  kitAny_cons (b := false) (kit_ty h0) (fun _ => kitAny_cons (b := false) (kit_ty h1) (fun _ => kitAny_cons (b := false) (kit_ty h2) (fun _ => kitAny_cons (b := false) (kit_ty h3) (fun _ => rfl) fun h => nomatch h) fun h => nomatch h) fun h => nomatch h) fun h => nomatch h
theorem ok_same0 (T : TX K mg) : Ok P w K mg base 1 ("_law_same", none) ["_law_found", "_law_due"] [] spSame0 := by
  refine ok_def (d := d__law_same) T.fd_d__law_same rfl rfl sc_same (fun _ _ _ _ _ _ us hl => match us, hl with | [_, _], _ => rfl) (fun vs H Q E h => ?_) fun cdv A outer s H vs Q E hr h => ?_
  · obtain ⟨_, rfl, _⟩ := h
    rfl
  · obtain ⟨x, rfl, hx, k⟩ := h
    refine ⟨_, pss_cons (ps_if (pt_val (pe_callB call_isiT (by rfl) T.f_isinstance b_isinstance (pa_cons (pv 1) (pa_cons (pe_tup (pa_cons (pe_bltn (v := .ty "list") (by rfl) T.f_list b_list rfl) (pa_cons (pe_bltn (v := .ty "tuple") (by rfl) T.f_tuple b_tuple rfl) pa_nil))) pa_nil)))) pss_never pss_nil)
      (pss_cons (ps_if (pt_val (pe_callB call_isi (by rfl) T.f_isinstance b_isinstance (pa_cons (pv 1) (pa_cons (pe_bltn (v := .ty "dict") (by rfl) T.f_dict b_dict rfl) pa_nil)))) pss_never pss_nil)
      (pss_cons (ps_if (pt_val (pe_callB call_isi (by rfl) T.f_isinstance b_isinstance (pa_cons (pv 1) (pa_cons (pe_bltn (v := .ty "int") (by rfl) T.f_int b_int rfl) pa_nil))))
        (pss_one (ps_ret (pe_and (pe_callB call_isi (by rfl) T.f_isinstance b_isinstance (pa_cons (pv 0) (pa_cons (pe_bltn (v := .ty "int") (by rfl) T.f_int b_int rfl) pa_nil)))
          (pe_and (pe_cmpR op_eq (pe_callB call_isi (by rfl) T.f_isinstance b_isinstance (pa_cons (pv 0) (pa_cons (pe_bltn (v := .ty "bool") (by rfl) T.f_bool b_bool rfl) pa_nil))) (pe_callB call_isi (by rfl) T.f_isinstance b_isinstance (pa_cons (pv 1) (pa_cons (pe_bltn (v := .ty "bool") (by rfl) T.f_bool b_bool rfl) pa_nil))) (nomark _))
            (pe_one (pe_cmpR op_eq (pv 0) (pv 1) (nomark _))))))) pss_nil)
      (pss_one (ps_ret (pe_and (pe_not (pe_callB call_isiT (by rfl) T.f_isinstance b_isinstance (pa_cons (pv 0) (pa_cons (pe_tup (pa_cons (pe_bltn (v := .ty "int") (by rfl) T.f_int b_int rfl) (pa_cons (pe_bltn (v := .ty "list") (by rfl) T.f_list b_list rfl) (pa_cons (pe_bltn (v := .ty "tuple") (by rfl) T.f_tuple b_tuple rfl) (pa_cons (pe_bltn (v := .ty "dict") (by rfl) T.f_dict b_dict rfl) pa_nil))))) pa_nil))))
        (pe_one (pe_cmpR op_eq (pv 0) (pv 1) (nomark _)))))))), ?_⟩
    rcases hx with rfl | ⟨i, rfl⟩
    · refine ⟨_, rfl, by show 2 ≤ sizeLine; decide, fun q hq => ⟨.non, q, _, _, _, false, rfl, upd_same, .cons (.ty "list") (.cons (.ty "tuple") .nil), .base .non, kit_f2 (by decide +kernel) (by decide +kernel), _, rfl, iteF ?_⟩⟩
      refine ⟨_, rfl, .non, _, _, _, false, rfl, .ty "dict", .base .non, kit_ty (by decide +kernel), _, rfl, iteF ?_⟩
      refine ⟨_, rfl, .non, _, _, _, false, rfl, .ty "int", .base .non, kit_ty (by decide +kernel), _, rfl, iteF ?_⟩
      refine ⟨_, rfl, by show 4 ≤ sizeLine; decide, fun q2 hq2 => ⟨.non, q2, _, _, _, false, rfl, upd_same, .cons (.ty "int") (.cons (.ty "list") (.cons (.ty "tuple") (.cons (.ty "dict") .nil))), .base .non, kit_f4 (by decide +kernel) (by decide +kernel) (by decide +kernel) (by decide +kernel), _, rfl, _, rfl, iteT ?_⟩⟩
      exact ⟨_, rfl, _, rfl, rfl, k _ ((same_new hq).trans (same_new hq2))⟩
    · refine ⟨_, rfl, by show 2 ≤ sizeLine; decide, fun q hq => ⟨.int i, q, _, _, _, false, rfl, upd_same, .cons (.ty "list") (.cons (.ty "tuple") .nil), .base (.int i), kit_f2 (by decide +kernel) (by decide +kernel), _, rfl, iteF ?_⟩⟩
      refine ⟨_, rfl, .int i, _, _, _, false, rfl, .ty "dict", .base (.int i), kit_ty (by decide +kernel), _, rfl, iteF ?_⟩
      refine ⟨_, rfl, .int i, _, _, _, true, rfl, .ty "int", .base (.int i), kit_ty (by decide +kernel), _, rfl, iteT ?_⟩
      refine ⟨_, rfl, .int i, _, _, _, true, rfl, .ty "int", .base (.int i), kit_ty (by decide +kernel), _, rfl, iteT ?_⟩
      refine ⟨_, rfl, .int i, _, _, _, false, rfl, .ty "bool", .base (.int i), kit_ty (by decide +kernel), _, rfl, .int i, _, _, _, false, rfl, .ty "bool", .base (.int i), kit_ty (by decide +kernel), rfl, _, rfl, iteT ?_⟩
      refine ⟨_, rfl, _, rfl, rfl, ?_⟩
      rw [decide_eq_true rfl]
      exact k _ (same_new hq)
theorem ok_same1 (T : TX K mg) : Ok P w K mg base 2 ("_law_same", none) ["_law_found", "_law_due"] [] spSame1 := by
  refine ok_def (d := d__law_same) T.fd_d__law_same rfl rfl sc_same (fun _ _ _ _ _ _ us hl => match us, hl with | [_, _], _ => rfl) (fun vs H Q E h => ?_) fun cdv A outer s H vs Q E hr h => ?_
  · obtain ⟨_, _, _, rfl, _⟩ := h
    rfl
  · obtain ⟨a, b, x, rfl, ha, hb, hx, k⟩ := h
    have sa : SeqH H true a [x] := ha
    have sb : SeqH H true b [x] := hb
    refine ⟨_, pss_cons (ps_if (pt_val (pe_callB call_isiT (by rfl) T.f_isinstance b_isinstance (pa_cons (pv 1) (pa_cons (pe_tup (pa_cons (pe_bltn (v := .ty "list") (by rfl) T.f_list b_list rfl) (pa_cons (pe_bltn (v := .ty "tuple") (by rfl) T.f_tuple b_tuple rfl) pa_nil))) pa_nil))))
        (pss_cons (ps_if (PW.pt (pw_or (pt_cmpR op_ne (pe_callB call_isi (by rfl) T.f_isinstance b_isinstance (pa_cons (pv 0) (pa_cons (pe_bltn (v := .ty "list") (by rfl) T.f_list b_list rfl) pa_nil))) (pe_callB call_isi (by rfl) T.f_isinstance b_isinstance (pa_cons (pv 1) (pa_cons (pe_bltn (v := .ty "list") (by rfl) T.f_list b_list rfl) pa_nil))) (nomark _))
            (pw_or1 (pt_cmpR op_ne (pe_callB call_isi (by rfl) T.f_isinstance b_isinstance (pa_cons (pv 0) (pa_cons (pe_bltn (v := .ty "tuple") (by rfl) T.f_tuple b_tuple rfl) pa_nil))) (pe_callB call_isi (by rfl) T.f_isinstance b_isinstance (pa_cons (pv 1) (pa_cons (pe_bltn (v := .ty "tuple") (by rfl) T.f_tuple b_tuple rfl) pa_nil))) (nomark _))))) (pss_one (ps_ret pe_bl)) pss_nil)
        (pss_one (ps_ret (pe_and (pe_cmpR op_eq (pe_callB call_len (by rfl) T.f_len PySem.boot_len (pa_cons (pv 0) pa_nil)) (pe_callB call_len (by rfl) T.f_len PySem.boot_len (pa_cons (pv 1) pa_nil)) (nomark _))
          (pe_one (pe_callB (cr_all rfl) (by rfl) T.f_all b_all (pa_cons (pe_lc (own := [("_law_x", 2), ("_law_y", 3)]) (g := gTup K 2 (gCons (gName 2) (gCons (gName 3) gNil))) (tt := tYes) (te := tCall spSame0 [] E0 (tCons (tVar 2) (tCons (tVar 3) tNil))) rfl sc_same.nd
            (pi_zipB (by rfl) T.f_zip (pa_cons (pv 0) (pa_cons (pv 1) pa_nil))) (blkOk_by (N := nSame) (sc := defScope s__law_same) (by decide +kernel))
            (fun _ _ _ _ _ => pg_tup rfl (pgs_cons (pg_name (i := 2) sc_same.nd rfl (Or.inl rfl)) (pgs_cons (pg_name (i := 3) sc_same.nd rfl (Or.inl rfl)) pgs_nil))) (fun _ _ _ _ _ => pts_nil)
            (fun _ _ _ _ _ => pe_f (ok_same0 T) hr (by decide) T.g__law_same (by rfl) (pa_cons (pv 2) (pa_cons (pv 3) pa_nil)))) pa_nil))))))) pss_nil) pss_never, ?_⟩
    refine ⟨_, rfl, by show 2 ≤ sizeLine; decide, fun q hq => ⟨.ref b, q, _, _, _, true, rfl, upd_same, .cons (.ty "list") (.cons (.ty "tuple") .nil), (sb.keep (same_new hq)).ty, kit_lt true, _, rfl, iteT ?_⟩⟩
    have s1 : Same H (upd H q (.tup [.ty "list", .ty "tuple"])) := same_new hq
    refine ⟨_, rfl, .ref a, _, _, _, true, rfl, .ty "list", (sa.keep s1).ty, kit_ty (by decide +kernel), _, rfl, .ref b, _, _, _, true, rfl, .ty "list", (sb.keep s1).ty, kit_ty (by decide +kernel), rfl, _, rfl, iteF ?_⟩
    refine ⟨_, rfl, .ref a, _, _, _, false, rfl, .ty "tuple", (sa.keep s1).ty, kit_ty (by decide +kernel), _, rfl, .ref b, _, _, _, false, rfl, .ty "tuple", (sb.keep s1).ty, kit_ty (by decide +kernel), rfl, _, rfl, iteF ?_⟩
    refine ⟨_, rfl, _, _, rfl, (sa.keep s1).len, _, rfl, _, _, rfl, (sb.keep s1).len, rfl, _, rfl, iteT ?_⟩
    refine ⟨_, rfl, _, rfl, true, true, a, b, _, _, rfl, (sa.keep s1).sqb, (sb.keep s1).sqb, fun D hD => ?_⟩
    refine lc_fm (walk_zipB (p := true) (q := true) (xs := [x]) (ys := [x]) rfl) (fun j => ([true][j]?).map V.bl) (by show 1 ≤ 100000; decide) hD (fun G s2 => ⟨((sa.keep s1).keep s2).sqb, ((sb.keep s1).keep s2).sqb⟩) (fun j y G G' hj s2 yy R N kR kN => ?_) fun G s2 hDl => ?_
    · obtain ⟨t, x1, x2, rfl, ht, rfl, e1, e2⟩ := yy
      have hj0 : j = 0 := by have : j < 1 := hj; omega
      subst hj0
      have e1 : x = x1 := by simpa using e1
      have e2 : x = x2 := by simpa using e2
      subst e1 e2
      refine ⟨t, _, rfl, .of upd_same, rfl, _, _, rfl, _, _, rfl, rfl, rfl, ?_⟩
      exact ⟨_, rfl, _, rfl, x, rfl, hx, fun B s3 => kR _ _ rfl ((same_new ht).trans s3)⟩
    · refine ⟨D, [true], rfl, .of hDl, k _ (s1.trans s2)⟩
end
end My

set_option Elab.async false
set_option linter.all false
set_option maxRecDepth 100000
set_option maxHeartbeats 4000000
namespace My
open PySem PySem.Spec PyProof.Rows L2
abbrev nTr : List Str := ["_law_names", "_law_askings", "_law_lies", "_law_state", "_law_thing", "_law_left", "_law_index", "_law_answer", "_law_inner"]
abbrev pTr : List Str := ["_law_names", "_law_askings", "_law_lies", "_law_state", "_law_thing"]
theorem sc_istree : FnScope nTr pTr (defScope s__law_m_is_tree) := ⟨rfl, rfl, rfl, by decide +kernel, rfl, by decide +kernel, by decide +kernel⟩
theorem eqv_strs : ∀ zs : List Str, PyData.eqv (.list (zs.map PyData.str)) (.list (zs.map PyData.str)) = true := fun zs => by
  rw [PyData.eqv]
  induction zs with
  | nil => rw [List.map_nil, PyData.eqvAll]
  | cons z r ih => rw [List.map_cons, PyData.eqvAll, PyData.eqv, ih]; simp
section
variable {P : Program} {w : World} {K : PySem.W.Frag} {mg : Str → Option Value} {base : Heap}
theorem ok_istree (T : TX K mg) : ∀ N : Nat, Ok P w K mg base (N + 2) ("_law_m_is_tree", none) pTr [] (spIsTree N) := by
  intro N
  induction N with
  | zero =>
    refine ok_def (d := d__law_m_is_tree) T.fd_d__law_m_is_tree rfl rfl sc_istree (fun _ _ _ _ _ _ us hl => match us, hl with | [_, _, _, _, _], _ => rfl) (fun vs H Q E h => ?_) fun cdv A outer s H vs Q E hr h => ?_
    · obtain ⟨_, _, _, _, _, _, _, _, _, _, rfl, _⟩ := h
      rfl
    · obtain ⟨t, hN, nA, aA, sa, v, names, rows, most, st, rfl, hnA, hn, haA, hrl, hsa, hst, hok, tv, hf, k⟩ := h
      have hu := hr.units
      refine ⟨_, pss_cons (ps_set (i := 5) sc_istree.nd rfl (Or.inl rfl) (pe_f (ok_lleft T) hr (by decide) T.g__law_m_left (by rfl) (pa_cons (pv 0) (pa_cons (pv 3) (pa_cons (pv 2) pa_nil)))))
        (pss_cons (ps_if (PW.pt (pw_or (pt_cmpR op_isN (pv 4) pe_non rfl) (pw_or1 (pt_val (pe_callB call_isi (by rfl) T.f_isinstance b_isinstance (pa_cons (pv 4) (pa_cons (pe_bltn (v := .ty "str") (by rfl) T.f_str b_str rfl) pa_nil)))))))
          (pss_one (ps_ret (pe_ifExp (pt_cmpR op_isN (pv 4) pe_non rfl) (pe_cmpR (op_eqD hu) (pv 5) (pe_lst pa_nil) (nomark _)) (pe_cmpR (op_eqD hu) (pv 5) (pe_lst (pa_cons (pv 4) pa_nil)) (nomark _))))) pss_nil) pss_never), ?_⟩
      refine ⟨_, rfl, _, rfl, _, rfl, nA, sa, names, st, most, rfl, hnA, hn, hsa, hst, fun l H1 hl s1 e1 => ?_⟩
      match t, tv, hf with
      | .non, tv, hf =>
        cases (show v = .non from tv)
        have hf : left names most (clampL most st) = [] := hf
        rw [left_clamp] at hf
        rw [hf] at e1
        refine ⟨_, rfl, rfl, _, rfl, iteT (iteT ⟨_, rfl, rfl, _, rfl, iteT ⟨_, rfl, by show 0 ≤ sizeLine; decide, fun q hq => ?_⟩⟩)⟩
        exact ⟨.list [], .list [], .lst (.of (same_new hq _ _ e1)) .nil, .lst (.of upd_same) .nil, sh_nil, sh_nil, by have := eqv_strs []; rw [List.map_nil] at this; rw [this]; exact k _ (s1.trans (same_new hq))⟩
      | .nm z, tv, hf =>
        cases (show v = .str z from tv)
        have hf : left names most (clampL most st) = [z] := hf
        rw [left_clamp] at hf
        have hz : PyData.strOk z = true := hok z (left_mem (most := most) (st := st) (by rw [hf]; exact List.mem_cons_self))
        rw [hf] at e1
        have sh1 : SeqAt.shaped (.list ([z].map PyData.str)) = true := sh_strs fun y hy => by rw [List.mem_singleton.mp hy]; exact hz
        refine ⟨_, rfl, rfl, _, rfl, iteF ⟨_, rfl, .str z, _, _, _, true, rfl, .ty "str", .base (.str z), kit_ty (by decide +kernel), _, rfl, iteT ⟨_, rfl, rfl, _, rfl, iteF ⟨_, rfl, _, rfl, by show 1 ≤ sizeLine; decide, fun q hq => ?_⟩⟩⟩⟩
        exact ⟨.list ([z].map PyData.str), .list ([z].map PyData.str), .lst (.of (same_new hq _ _ e1)) (dp_strs [z]), .lst (.of upd_same) (dp_strs [z]), sh1, sh1, by rw [eqv_strs]; exact k _ (s1.trans (same_new hq))⟩
      | .nd i a b, tv, hf => exact absurd hN (by show ¬ 1 + max _ _ ≤ 0; omega)
  | succ N ih =>
    refine ok_def (d := d__law_m_is_tree) T.fd_d__law_m_is_tree rfl rfl sc_istree (fun _ _ _ _ _ _ us hl => match us, hl with | [_, _, _, _, _], _ => rfl) (fun vs H Q E h => ?_) fun cdv A outer s H vs Q E hr h => ?_
    · obtain ⟨_, _, _, _, _, _, _, _, _, _, rfl, _⟩ := h
      rfl
    · obtain ⟨t, hN, nA, aA, sa, v, names, rows, most, st, rfl, hnA, hn, haA, hrl, hsa, hst, hok, tv, hf, k⟩ := h
      have hu := hr.units
      refine ⟨_, pss_cons (ps_set (i := 5) sc_istree.nd rfl (Or.inl rfl) (pe_f (ok_lleft T) hr (by omega) T.g__law_m_left (by rfl) (pa_cons (pv 0) (pa_cons (pv 3) (pa_cons (pv 2) pa_nil)))))
        (pss_cons (ps_if (PW.pt (pw_or (pt_cmpR op_isN (pv 4) pe_non rfl) (pw_or1 (pt_val (pe_callB call_isi (by rfl) T.f_isinstance b_isinstance (pa_cons (pv 4) (pa_cons (pe_bltn (v := .ty "str") (by rfl) T.f_str b_str rfl) pa_nil)))))))
          (pss_one (ps_ret (pe_ifExp (pt_cmpR op_isN (pv 4) pe_non rfl) (pe_cmpR (op_eqD hu) (pv 5) (pe_lst pa_nil) (nomark _)) (pe_cmpR (op_eqD hu) (pv 5) (pe_lst (pa_cons (pv 4) pa_nil)) (nomark _))))) pss_nil)
        (pss_cons (ps_if (PW.pt (pw_or (pt_not (pt_val (pe_callB call_isiT (by rfl) T.f_isinstance b_isinstance (pa_cons (pv 4) (pa_cons (pe_tup (pa_cons (pe_bltn (v := .ty "list") (by rfl) T.f_list b_list rfl) (pa_cons (pe_bltn (v := .ty "tuple") (by rfl) T.f_tuple b_tuple rfl) pa_nil))) pa_nil)))))
          (pw_or1 (pt_cmpR op_ne (pe_callB call_len (by rfl) T.f_len PySem.boot_len (pa_cons (pv 4) pa_nil)) pe_int (nomark _))))) (pss_one (ps_ret pe_bl)) pss_nil)
        (pss_cons (ps_set (i := 6) sc_istree.nd rfl (Or.inl rfl) (pe_ix ix_tup (pv 4) pe_int (fun _ _ => rfl)))
        (pss_cons (ps_if (PW.pt (pw_or (pt_not (pt_val (pe_callB call_isi (by rfl) T.f_isinstance b_isinstance (pa_cons (pv 6) (pa_cons (pe_bltn (v := .ty "int") (by rfl) T.f_int b_int rfl) pa_nil)))))
          (pw_or (pt_val (pe_callB call_isi (by rfl) T.f_isinstance b_isinstance (pa_cons (pv 6) (pa_cons (pe_bltn (v := .ty "bool") (by rfl) T.f_bool b_bool rfl) pa_nil))))
          (pw_or1 (pt_not (pt_chain op_le op_lt pe_int (pv 6) (pe_callB call_len (by rfl) T.f_len PySem.boot_len (pa_cons (pv 1) pa_nil)))))))) (pss_one (ps_ret pe_bl)) pss_nil)
        (pss_cons (ps_for PassesOwn.never rfl (pi_sqB (pe_tup (pa_cons (pe_tup (pa_cons pe_bl (pa_cons (pe_ix ix_tup (pv 4) pe_int (fun _ _ => rfl)) pa_nil))) (pa_cons (pe_tup (pa_cons pe_bl (pa_cons (pe_ix ix_tup (pv 4) pe_int (fun _ _ => rfl)) pa_nil))) pa_nil)))) (pg_tup rfl (pgs_cons (pg_name (i := 7) sc_istree.nd rfl (Or.inl rfl)) (pgs_cons (pg_name (i := 8) sc_istree.nd rfl (Or.inl rfl)) pgs_nil)))
          (pss_one (ps_if (pt_not (pt_val (pe_f ih hr (Nat.le_refl _) T.g__law_m_is_tree (by rfl) (pa_cons (pv 0) (pa_cons (pv 1) (pa_cons (pv 2) (pa_cons (pe_f (ok_after T) hr (by omega) T.g__law_m_after (by rfl) (pa_cons (pv 0) (pa_cons (pv 1) (pa_cons (pv 3) (pa_cons (pv 6) (pa_cons (pv 7) pa_nil)))))) (pa_cons (pv 8) pa_nil)))))))) (pss_one (ps_ret pe_bl)) pss_nil)))
        (pss_one (ps_ret pe_bl))))))), ?_⟩
      refine ⟨_, rfl, _, rfl, _, rfl, nA, sa, names, st, most, rfl, hnA, hn, hsa, hst, fun l H1 hl s1 e1 => ?_⟩
      match t, tv, hf with
      | .non, tv, hf =>
        cases (show v = .non from tv)
        have hf : left names most (clampL most st) = [] := hf
        rw [left_clamp] at hf
        rw [hf] at e1
        refine ⟨_, rfl, rfl, _, rfl, iteT (iteT ⟨_, rfl, rfl, _, rfl, iteT ⟨_, rfl, by show 0 ≤ sizeLine; decide, fun q hq => ?_⟩⟩)⟩
        exact ⟨.list [], .list [], .lst (.of (same_new hq _ _ e1)) .nil, .lst (.of upd_same) .nil, sh_nil, sh_nil, by have := eqv_strs []; rw [List.map_nil] at this; rw [this]; exact k _ (s1.trans (same_new hq))⟩
      | .nm z, tv, hf =>
        cases (show v = .str z from tv)
        have hf : left names most (clampL most st) = [z] := hf
        rw [left_clamp] at hf
        have hz : PyData.strOk z = true := hok z (left_mem (most := most) (st := st) (by rw [hf]; exact List.mem_cons_self))
        rw [hf] at e1
        have sh1 : SeqAt.shaped (.list ([z].map PyData.str)) = true := sh_strs fun y hy => by rw [List.mem_singleton.mp hy]; exact hz
        refine ⟨_, rfl, rfl, _, rfl, iteF ⟨_, rfl, .str z, _, _, _, true, rfl, .ty "str", .base (.str z), kit_ty (by decide +kernel), _, rfl, iteT ⟨_, rfl, rfl, _, rfl, iteF ⟨_, rfl, _, rfl, by show 1 ≤ sizeLine; decide, fun q hq => ?_⟩⟩⟩⟩
        exact ⟨.list ([z].map PyData.str), .list ([z].map PyData.str), .lst (.of (same_new hq _ _ e1)) (dp_strs [z]), .lst (.of upd_same) (dp_strs [z]), sh1, sh1, by rw [eqv_strs]; exact k _ (s1.trans (same_new hq))⟩
      | .nd i a b, tv, hf =>
        obtain ⟨q, va, vb, rfl, hq, ta, tb⟩ := tv
        obtain ⟨sg, es, fa, fb⟩ := hf
        have hab : 1 + max (height a) (height b) ≤ N + 1 := hN
        have hsq : SeqH H false q [.int (i : Nat), va, vb] := hq
        rw [signsOf_eq, List.getElem?_map] at es
        obtain ⟨row, hrow, rfl⟩ := Option.map_eq_some_iff.mp es
        obtain ⟨rs, g1, g2, g3⟩ := id haA
        have hir : i < rs.length := by rw [g2]; exact (List.getElem?_eq_some_iff.mp hrow).1
        have lsg : (sgOf names row).length = names.length := List.length_map _
        refine ⟨_, rfl, rfl, _, rfl, iteF ⟨_, rfl, .ref q, _, _, _, false, rfl, .ty "str", (hsq.keep s1).ty, kit_ty (by decide +kernel), _, rfl, iteF ?_⟩⟩
        refine ⟨_, rfl, by show 2 ≤ sizeLine; decide, fun q0 hq0 => ⟨.ref q, q0, _, _, _, true, rfl, upd_same, .cons (.ty "list") (.cons (.ty "tuple") .nil), ((hsq.keep s1).keep (same_new hq0)).ty, kit_lt false, _, rfl, iteF ?_⟩⟩
        have s2 : Same H (upd H1 q0 (.tup [.ty "list", .ty "tuple"])) := s1.trans (same_new hq0)
        generalize upd H1 q0 (.tup [.ty "list", .ty "tuple"]) = H2 at s2
        refine ⟨_, rfl, _, _, rfl, (hsq.keep s2).len, rfl, _, rfl, iteF ?_⟩
        refine ⟨_, rfl, q, _, _, .int (i : Nat), rfl, rfl, .of (s2 _ _ hq), atI_nat (j := 0) rfl, ?_⟩
        refine ⟨_, rfl, .int (i : Nat), _, _, _, true, rfl, .ty "int", .base (.int _), kit_ty (by decide +kernel), _, rfl, iteF ?_⟩
        refine ⟨_, rfl, .int (i : Nat), _, _, _, false, rfl, .ty "bool", .base (.int _), kit_ty (by decide +kernel), _, rfl, iteF ?_⟩
        refine ⟨_, rfl, _, _, rfl, rfl, _, rfl, ?_⟩
        rw [decide_eq_true (show (0 : Int) ≤ (i : Nat) by omega)]
        refine iteT ⟨_, rfl, _, _, rfl, (g1.keep s2).len, _, _, rfl, rfl, _, rfl, ?_⟩
        rw [decide_eq_true (show ((i : Nat) : Int) < (((rs.map fun r => V.ref r.2).length : Nat) : Int) by rw [List.length_map]; omega)]
        refine iteF ?_
        refine ⟨_, rfl, q, _, _, va, rfl, rfl, .of (s2 _ _ hq), atI_nat (j := 1) rfl, by show 2 ≤ sizeLine; decide, fun t1 ht1 => ?_⟩
        have s3 : Same H2 (upd H2 t1 (.tup [.bl true, va])) := same_new ht1
        have et1 : (upd H2 t1 (.tup [.bl true, va])) t1 = some (.tup [.bl true, va]) := upd_same
        generalize upd H2 t1 (.tup [.bl true, va]) = H3 at s3 et1
        refine ⟨_, rfl, q, _, _, vb, rfl, rfl, .of (s3 _ _ (s2 _ _ hq)), atI_nat (j := 2) rfl, by show 2 ≤ sizeLine; decide, fun t2 ht2 => ?_⟩
        have s4 : Same H3 (upd H3 t2 (.tup [.bl false, vb])) := same_new ht2
        have et2 : (upd H3 t2 (.tup [.bl false, vb])) t2 = some (.tup [.bl false, vb]) := upd_same
        generalize upd H3 t2 (.tup [.bl false, vb]) = H4 at s4 et2
        refine ⟨by show 2 ≤ sizeLine; decide, fun t0 ht0 => ⟨false, t0, _, rfl, .of upd_same, ?_⟩⟩
        have s5 : Same H4 (upd H4 t0 (.tup [.ref t1, .ref t2])) := same_new ht0
        have et0 : (upd H4 t0 (.tup [.ref t1, .ref t2])) t0 = some (.tup [.ref t1, .ref t2]) := upd_same
        generalize upd H4 t0 (.tup [.ref t1, .ref t2]) = H5 at s5 et0
        have s25 : Same H H5 := s2.trans (s3.trans (s4.trans s5))
        refine for_it (walk_sqB (p := false) (xs := [V.ref t1, V.ref t2])) (fun j σ G => ∃ v7 v8, σ = [some (.ref nA), some (.ref aA), some (.int most), some (.ref sa), some (.ref q), some (.ref l), some (.int (i : Nat)), v7, v8] ∧ Same H5 G) ⟨_, _, rfl, Same.refl _⟩ (fun j σ G _ pr => ?_) (fun j x σ G G' hj pr y => ?_) fun σ G pr => ?_
        · obtain ⟨_, _, _, s6⟩ := pr
          exact .of (s6 _ _ et0)
        · obtain ⟨v7, v8, rfl, s6⟩ := pr
          obtain ⟨e5, ex⟩ := y
          subst e5
          have s26 := s25.trans s6
          obtain ⟨ad, ans, vv, tt, rfl, hH, htt, hff, hht⟩ : ∃ (ad : Addr) (ans : Bool) (vv : V) (tt : Tr), x = .ref ad ∧ G' ad = some (.tup [.bl ans, vv]) ∧ TrAt G' vv tt ∧ Fits names most (signsOf names rows) (aft most (sgOf names row) ans (clampL most st)) tt ∧ height tt ≤ N := by
            match j, ex with
            | 0, ex =>
              have ex : V.ref t1 = x := Option.some.inj ex
              exact ⟨t1, true, va, a, ex.symm, s6 _ _ (s5 _ _ (s4 _ _ et1)), ta.keep s26, fa, by omega⟩
            | 1, ex =>
              have ex : V.ref t2 = x := Option.some.inj ex
              exact ⟨t2, false, vb, b, ex.symm, s6 _ _ (s5 _ _ et2), tb.keep s26, fb, by omega⟩
            | j + 2, ex => exact absurd hj (by show ¬ j + 2 < 2; omega)
          refine ⟨ad, _, rfl, .of hH, rfl, _, _, rfl, _, _, rfl, rfl, ?_⟩
          refine ⟨_, rfl, _, rfl, _, rfl, _, rfl, _, rfl, _, rfl, _, rfl, _, rfl, nA, aA, sa, names, rows, st, i, row, ans, rfl, hnA.keep s26, hn, haA.keep s26, s26 _ _ hsa, hst, hrow, fun q' B hq' s7 e7 => ?_⟩
          refine ⟨_, rfl, tt, hht, nA, aA, q', vv, names, rows, most, raw (sgOf names row) ans st, rfl, (hnA.keep s26).keep s7, hn, (haA.keep s26).keep s7, hrl, e7, by rw [raw_len (by rw [lsg, hst]), hst], hok, htt.keep s7, ?_, fun B2 s8 => ⟨_, rfl, iteF ⟨_, _, rfl, (s6.trans s7).trans s8⟩⟩⟩
          rw [clamp_raw]
          exact hff
        · obtain ⟨v7, v8, rfl, s6⟩ := pr
          exact k _ (s25.trans s6)
end
end My

set_option Elab.async false
set_option linter.all false
set_option maxRecDepth 100000
set_option maxHeartbeats 4000000
namespace My
open PySem PySem.Spec PyProof.Rows L2
theorem seq_of {a b : TS} {D : Ends} {σ : L2.St} {H : Hp} (I : L2.St → Hp → Prop) (h1 : ∀ σ G, I σ G → b D σ G) (h2 : ∀ R : L2.St → Hp → Prop, (∀ σ G, I σ G → R σ G) → a { D with nx := R } σ H) : tSeq a b D σ H := h2 _ h1
def seven : List Str := ["a", "b", "c1", "d", "zed", "m9", "k"]
def strOf : V → Str
  | .str s => s
  | _ => ""
theorem perm_strs {ys : List V} {ss : List Str} (h : ys.Perm (ss.map V.str)) : ∃ zs : List Str, ys = zs.map V.str ∧ zs.Perm ss := by
  refine ⟨ys.map strOf, ?_, ?_⟩
  · rw [List.map_map]
    refine ((List.map_id ys).symm.trans (List.map_congr_left fun v hv => ?_))
    obtain ⟨s, _, rfl⟩ := List.mem_map.mp (h.mem_iff.mp hv)
    rfl
  · have := h.map strOf
    rw [List.map_map] at this
    have e : ss.map (strOf ∘ V.str) = ss := List.map_id ss
    rw [e] at this
    exact this
def R0 (row : List Str) : Prop := row.Nodup ∧ row.length ≤ 7 ∧ ∀ z ∈ row, z ∈ seven
theorem seven_good : ∀ z ∈ seven, goodN z = true := by decide +kernel
theorem R0.ok {row : List Str} (h : R0 row) : okNames row := ⟨List.all_eq_true.mpr fun z hz => seven_good z (h.2.2 z hz), h.1, by have := h.2.1; omega⟩
theorem R0.perm {a b : List Str} (h : R0 a) (p : b.Perm a) : R0 b := ⟨p.nodup_iff.mpr h.1, by rw [p.length_eq]; exact h.2.1, fun z hz => h.2.2 z (p.mem_iff.mp hz)⟩
theorem R0.sub {a b : List Str} (h : R0 a) (s : b.Sublist a) : R0 b := ⟨h.1.sublist s, Nat.le_trans s.length_le h.2.1, fun z hz => h.2.2 z (s.mem hz)⟩
theorem R0_seven : R0 seven := ⟨by decide +kernel, by decide, fun _ h => h⟩
def sStr : Str := "stranger"
theorem R0.stranger {row : List Str} (h : R0 row) : okNames (row ++ [sStr]) := by
  have hno : ¬ sStr ∈ seven := by decide +kernel
  have hg : goodN sStr = true := by decide +kernel
  obtain ⟨a, b, c⟩ := h.ok
  refine ⟨?_, ?_, ?_⟩
  · rw [List.all_append, a]
    simp [hg]
  · rw [List.nodup_append]
    refine ⟨b, by simp, fun x hx y hy e => ?_⟩
    rw [List.mem_singleton.mp hy] at e
    rw [e] at hx
    exact hno (h.2.2 _ hx)
  · rw [List.length_append]
    have := h.2.1
    show row.length + 1 ≤ 20
    omega
def RowV (p : List Str → Prop) (H : Hp) (v : V) : Prop := ∃ b row, v = .ref b ∧ H b = some (.lst (row.map V.str)) ∧ p row
theorem RowV.keep {p : List Str → Prop} {H H' : Hp} {v : V} (h : RowV p H v) (k : Same H H') : RowV p H' v := by
  obtain ⟨b, row, e, h1, h2⟩ := h
  exact ⟨b, row, e, k _ _ h1, h2⟩
theorem RowV.imp {p q : List Str → Prop} {H : Hp} {v : V} (h : RowV p H v) (k : ∀ r, p r → q r) : RowV q H v := by
  obtain ⟨b, row, e, h1, h2⟩ := h
  exact ⟨b, row, e, h1, k _ h2⟩
theorem RowV.ne {p : List Str → Prop} {H : Hp} {v : V} {a : Addr} {xs : List V} (ha : H a = some (.lst xs)) (hv : v ∈ xs) (h : RowV p H v) : ∃ b row, v = .ref b ∧ H b = some (.lst (row.map V.str)) ∧ p row ∧ b ≠ a := by
  obtain ⟨b, row, e, h1, h2⟩ := h
  refine ⟨b, row, e, h1, h2, fun z => ?_⟩
  rw [z, ha] at h1
  have e2 : xs = row.map V.str := by injection h1 with h1; injection h1
  rw [e2, e] at hv
  obtain ⟨s, _, hs⟩ := List.mem_map.mp hv
  cases hs
theorem ixN_last {n : Nat} (h : 0 < n) : ixN n (-1) = some (n - 1) := by
  unfold ixN
  rw [if_neg (by decide), if_pos (by omega)]
  congr 1
  omega
def RL (H : Hp) (a : Addr) (rows : List (List Str)) : Prop := ∃ bs : List Addr, H a = some (.lst (bs.map V.ref)) ∧ bs.length = rows.length ∧ ∀ (j : Nat) b row, bs[j]? = some b → rows[j]? = some row → H b = some (.lst (row.map V.str))
theorem RL.keep {H H' : Hp} {a : Addr} {rows : List (List Str)} (h : RL H a rows) (k : Same H H') : RL H' a rows := by
  obtain ⟨bs, h1, h2, h3⟩ := h
  exact ⟨bs, k _ _ h1, h2, fun j b row e1 e2 => k _ _ (h3 j b row e1 e2)⟩
theorem RL.at {H : Hp} {a : Addr} {rows : List (List Str)} (h : RL H a rows) : RowsAt H true a rows := by
  obtain ⟨bs, h1, h2, h3⟩ := h
  refine ⟨bs.map fun b => (true, b), ?_, by rw [List.length_map]; exact h2, fun i r row e1 e2 => ?_⟩
  · rw [List.map_map]; exact h1
  · rw [List.getElem?_map] at e1
    obtain ⟨b, eb, rfl⟩ := Option.map_eq_some_iff.mp e1
    exact h3 i b row eb e2
theorem rows_of {p : List Str → Prop} {H : Hp} : ∀ {xs : List V}, (∀ v ∈ xs, RowV p H v) → ∃ (rs : List Addr) (rows : List (List Str)), xs = rs.map V.ref ∧ rs.length = rows.length ∧ (∀ row ∈ rows, p row) ∧
    ∀ (i : Nat) r row, rs[i]? = some r → rows[i]? = some row → H r = some (.lst (row.map V.str))
  | [], _ => ⟨[], [], rfl, rfl, (fun _ h => nomatch h), fun i r row e => by simp at e⟩
  | v :: xs, h => by
    obtain ⟨b, row, e, h1, h2⟩ := h v List.mem_cons_self
    obtain ⟨rs, rows, e1, e2, e3, e4⟩ := rows_of fun u hu => h u (List.mem_cons_of_mem _ hu)
    refine ⟨b :: rs, row :: rows, by rw [e, e1]; rfl, by simp [e2], fun r hr => ?_, fun i r row' a1 a2 => ?_⟩
    · rcases List.mem_cons.mp hr with q | q
      · rw [q]; exact h2
      · exact e3 r q
    · cases i with
      | zero =>
        have a1 : b = r := by simpa using a1
        have a2 : row = row' := by simpa using a2
        rw [← a1, ← a2]
        exact h1
      | succ i => exact e4 i r row' (by simpa using a1) (by simpa using a2)
def spSusp : Sp := fun vs H Q _ => ∃ p cl c, ∃ most : Nat, vs = [.ref p, .int (most : Nat)] ∧ 0 < most ∧ most < 1000 ∧ c + 1000 < 1000000 ∧ SAt H p cl c ∧
  ∀ q nA aA names rows H', hs p cl H' q = some (.tup [.ref nA, .ref aA]) → hs p cl H' nA = some (.lst (names.map V.str)) → RL (hs p cl H') aA rows → names ≠ [] → okNames names → names.length ≤ most → names.length ≤ 7 → okRows rows → Same (hs p cl H) (hs p cl H') → SAt H' p cl (c + 100) → Q (.ref q) H'
abbrev nSu : List Str := ["_law_stream", "_law_most", "_law_names", "_law_askings", "_law_way", "_law_k", "_law_at", "_law_name"]
theorem sc_su : FnScope nSu ["_law_stream", "_law_most"] (defScope s__law_m_suspects) := ⟨rfl, rfl, rfl, by decide +kernel, rfl, by decide +kernel, by decide +kernel⟩
section
variable {P : Program} {w : World} {K : PySem.W.Frag} {mg : Str → Option Value} {base : Heap}
theorem ok_su (T : TX K mg) : Ok P w K mg base 3 ("_law_m_suspects", none) ["_law_stream", "_law_most"] [] spSusp := by
  refine ok_def (d := d__law_m_suspects) T.fd_d__law_m_suspects rfl rfl sc_su (fun _ _ _ _ _ _ us hl => match us, hl with | [_, _], _ => rfl) (fun vs H Q E h => ?_) fun cdv A outer s H vs Q E hr h => ?_
  · obtain ⟨_, _, _, _, rfl, _⟩ := h
    rfl
  · obtain ⟨p, cl, c, most, rfl, hm0, hm1, hc, st, k⟩ := h
    have hz : sizeLine = 16777216 := sizeLine_eq
    refine ⟨_, pss_cons (ps_set (i := 2) sc_su.nd rfl (Or.inr rfl) (pe_slice sl_list (pe_f (ok_mixed T) hr (by decide) T.g__law_mixed (by rfl) (pa_cons (pv 0) (pa_cons (pe_lst (pa_cons pe_str (pa_cons pe_str (pa_cons pe_str (pa_cons pe_str (pa_cons pe_str (pa_cons pe_str (pa_cons pe_str pa_nil)))))))) pa_nil))) po_none (po_some (pe_op op_add pe_int (pe_f (ok_draw T) hr (by decide) T.g__law_draw (by rfl) (pa_cons (pv 0) (pa_cons (pv 1) pa_nil)))))))
      (pss_cons (ps_par (i := 3) (j := 4) rfl sc_su.nd rfl rfl (by decide) rfl rfl (pa_cons (pe_lst pa_nil) (pa_cons (pe_f (ok_draw T) hr (by decide) T.g__law_draw (by rfl) (pa_cons (pv 0) (pa_cons pe_int pa_nil))) pa_nil)) (by rfl))
      (pss_cons (ps_if (pt_cmpR op_eq (pv 4) pe_int (nomark _))
        (pss_one (ps_setLc (i := 3) (own := [("_law_at", 6)]) (g := gName 6) (tt := tYes) (te := tSl (rSlL K) (tVar 2) tNoPart (tPart (tVar 6))) rfl sc_su.nd rfl rfl (sw_true rfl rfl rfl (by decide +kernel))
          (pi_range2 (by rfl) T.f_range (pa_cons pe_int (pa_cons (pe_callB call_len (by rfl) T.f_len PySem.boot_len (pa_cons (pv 2) pa_nil)) pa_nil))) (blkOk_by (N := nSu) (sc := defScope s__law_m_suspects) (by decide +kernel)) (fun _ _ _ _ _ => pg_name (i := 6) sc_su.nd rfl (Or.inl rfl)) (fun _ _ _ _ _ => pts_nil)
          (fun _ _ _ _ _ => pe_slice sl_list (pv 2) po_none (po_some (pv 6))))) pss_nil)
      (pss_cons (ps_for PassesOwn.never rfl (pi_range1 (by rfl) T.f_range (pa_cons (pe_op op_add pe_int (pe_f (ok_draw T) hr (by decide) T.g__law_draw (by rfl) (pa_cons (pv 0) (pa_cons pe_int pa_nil)))) pa_nil)) (pg_name (i := 5) sc_su.nd rfl (Or.inl rfl))
        (pss_one (ps_expr (pe_bm PySem.F.plainAttrs_list PySem.F.slot_list_append PySem.F.type_list_append mt_append (pv 3) (pa_cons (pe_lc (own := [("_law_name", 7)]) (g := gName 7) (tt := tTest (tOp rEq (tCall spDraw [] E0 (tCons (tVar 0) (tCons (tC (.int 2)) tNil))) (tC (.int 0)))) (te := tVar 7) rfl sc_su.nd
          (pi_sqB (pe_f (ok_mixed T) hr (by decide) T.g__law_mixed (by rfl) (pa_cons (pv 0) (pa_cons (pv 2) pa_nil)))) (blkOk_by (N := nSu) (sc := defScope s__law_m_suspects) (by decide +kernel)) (fun _ _ _ _ _ => pg_name (i := 7) sc_su.nd rfl (Or.inl rfl))
          (fun _ _ _ _ _ => pts_one (pt_cmpR op_eq (pe_f (ok_draw T) hr (by decide) T.g__law_draw (by rfl) (pa_cons (pv 0) (pa_cons pe_int pa_nil))) pe_int (nomark _))) (fun _ _ _ _ _ => pv 7)) pa_nil)))))
      (pss_cons (ps_if (pt_cmpR op_eq (pv 4) pe_int (nomark _))
        (pss_one (ps_asg (pe_op op_cat (pe_ix ix_list (pv 3) (pe_un un_neg pe_int) (fun _ _ => rfl)) (pe_lst (pa_cons pe_str pa_nil))) (pg_sub (pv 3) (pe_un un_neg pe_int) set_list))) pss_nil)
      (pss_one (ps_ret (pe_tup (pa_cons (pv 2) (pa_cons (pe_slice sl_list (pe_f (ok_mixed T) hr (by decide) T.g__law_mixed (by rfl) (pa_cons (pv 0) (pa_cons (pv 3) pa_nil))) po_none (po_some pe_int)) pa_nil))))))))), ?_⟩
    refine ⟨_, rfl, by show 7 ≤ sizeLine; decide, fun a0 ha0 => ?_⟩
    have hsN : ∀ {G : Hp} {b : Addr} {o : HO}, hs p cl G b = some o → G b = some o := fun h => (hs_at h).2.2
    obtain ⟨n1, n2⟩ := st.new ha0
    have k1 : Same (hs p cl H) (hs p cl (upd H a0 (.lst (seven.map V.str)))) := hs_mono (same_new ha0)
    have st1 : SAt (upd H a0 (.lst (seven.map V.str))) p cl c := st.up n1 n2
    have e1 : hs p cl (upd H a0 (.lst (seven.map V.str))) a0 = some (.lst (seven.map V.str)) := hs_of upd_same n1 n2
    refine ⟨p, cl, c, a0, seven.map V.str, rfl, e1, by show 7 ≤ 100; decide, by omega, st1, fun l ys H2 pr hl e2 k2 st2 => ?_⟩
    obtain ⟨zs, rfl, pz⟩ := perm_strs pr
    have st2 : SAt H2 p cl (c + 7) := st2
    refine ⟨_, rfl, _, rfl, p, cl, c + 7, most, rfl, hm0, hm1, by omega, st2, fun i H3 hi k3 st3 => ?_⟩
    have e3 := k3 _ _ e2
    refine ⟨_, _, rfl, rfl, _, rfl, l, _, rfl, .of (hsN e3), fun nA hnA => ?_⟩
    have ei : (1 : Int) + ((i : Nat) : Int) = ((1 + i : Nat) : Int) := by omega
    rw [ei, cut_take, ← List.map_take]
    have r0 : R0 (zs.take (1 + i)) := (R0_seven.perm pz).sub (List.take_sublist _ _)
    have lz : zs.length = 7 := pz.length_eq
    have ln : (zs.take (1 + i)).length ≤ most := by rw [List.length_take]; omega
    have l0 : 0 < (zs.take (1 + i)).length := by rw [List.length_take]; omega
    generalize zs.take (1 + i) = names at r0 ln l0
    obtain ⟨m1, m2⟩ := st3.new hnA
    have k4 : Same (hs p cl H) (hs p cl (upd H3 nA (.lst (names.map V.str)))) := (k1.trans (k2.trans k3)).trans (hs_mono (same_new hnA))
    have st4 : SAt (upd H3 nA (.lst (names.map V.str))) p cl (c + 8) := st3.up m1 m2
    have e4 : hs p cl (upd H3 nA (.lst (names.map V.str))) nA = some (.lst (names.map V.str)) := hs_of upd_same m1 m2
    show tSeq _ _ _ [some (.ref p), some (.int (most : Nat)), some (.ref nA), none, none, none, none, none] (upd H3 nA (.lst (names.map V.str)))
    generalize upd H3 nA (.lst (names.map V.str)) = H4 at k4 st4 e4
    refine ⟨by show 0 ≤ sizeLine; decide, fun a1 ha1 => ?_⟩
    obtain ⟨x1, x2⟩ := st4.new ha1
    have st5 : SAt (upd H4 a1 (.lst [])) p cl (c + 8) := st4.up x1 x2
    have e5 : hs p cl (upd H4 a1 (.lst [])) a1 = some (.lst []) := hs_of upd_same x1 x2
    have k5 : Same (hs p cl H4) (hs p cl (upd H4 a1 (.lst []))) := hs_mono (same_new ha1)
    have no4 : ∀ {a : Addr}, H4 a = none → hs p cl H4 a = none := fun {a} h => by
      cases q : hs p cl H4 a with
      | none => rfl
      | some o => have := hsN q; rw [h] at this; cases this
    have f1 := no4 ha1
    generalize upd H4 a1 (.lst []) = H5 at st5 e5 k5
    refine ⟨_, rfl, p, cl, c + 8, 4, rfl, by decide, by decide, by omega, st5, fun wy H6 hwy k6 st6 => ⟨_, _, rfl, ?_⟩⟩
    have st6 : SAt H6 p cl (c + 9) := st6
    have e6 := k6 _ _ e5
    have k46 := k5.trans k6
    have n46 := k46 _ _ e4
    dsimp only
    refine seq_of (fun σ G => ∃ aL xs, σ = [some (.ref p), some (.int (most : Nat)), some (.ref nA), some (.ref aL), some (.int (wy : Nat)), none, none, none] ∧ hs p cl G aL = some (.lst xs) ∧ hs p cl H4 aL = none ∧ xs.length ≤ 6 ∧ (∀ v ∈ xs, RowV R0 (hs p cl G) v) ∧ Same (hs p cl H4) (hs p cl G) ∧ SAt G p cl (c + 9)) (fun σ G pr => ?_) fun R hR => ?_
    · -- the rows that are drawn
      obtain ⟨aL, xs, rfl, eL, fL, lL, rL, kG, stG⟩ := pr
      refine ⟨_, rfl, p, cl, c + 9, 4, rfl, by decide, by decide, by omega, stG, fun kk G1 hkk k7 st7 => ?_⟩
      refine ⟨_, _, rfl, rfl, _, rfl, by omega, by omega, ?_⟩
      have st7 : SAt G1 p cl (c + 10) := st7
      have ekk : ((1 : Int) + ((kk : Nat) : Int)).toNat = 1 + kk := by omega
      rw [ekk]
      refine for_range (lo := 0) (n := 1 + kk) (fun i σ G => ∃ v5 xs', σ = [some (.ref p), some (.int (most : Nat)), some (.ref nA), some (.ref aL), some (.int (wy : Nat)), v5, none, none] ∧ hs p cl G aL = some (.lst xs') ∧ xs'.length = xs.length + i ∧ (∀ v ∈ xs', RowV R0 (hs p cl G) v) ∧ Same (hs p cl H4) (hs p cl G) ∧ SAt G p cl (c + 10 + 14 * i))
        ⟨_, xs, rfl, k7 _ _ eL, rfl, fun v hv => (rL v hv).keep k7, kG.trans k7, st7⟩ (fun i σ G2 hi pr => ?_) fun σ G2 pr => ?_
      · obtain ⟨v5, xs', rfl, eX, lX, rX, kX, stX⟩ := pr
        have nmX := kX _ _ e4
        have hi4 : i < 4 := by omega
        refine ⟨_, rfl, .inl ⟨rfl, _, .of (hsN eX)⟩, _, rfl, _, rfl, p, cl, c + 10 + 14 * i, nA, names.map V.str, rfl, nmX, by rw [List.length_map]; have := r0.2.1; omega, by omega, stX, fun l2 ys2 G3 pr2 hl2 eY kY stY => ?_⟩
        obtain ⟨zs2, rfl, pz2⟩ := perm_strs pr2
        have r2 := r0.perm pz2
        have ly : (names.map V.str).length ≤ 7 := by rw [List.length_map]; exact r0.2.1
        have l27 := r2.2.1
        have stY : SAt G3 p cl (c + 10 + 14 * i + 7) := stY.le (by omega)
        refine ⟨true, l2, _, rfl, .of (hsN eY), fun D hD => ?_⟩
        obtain ⟨d1, d2⟩ := stY.new hD
        have fD : hs p cl G3 D = none := by
          cases q : hs p cl G3 D with
          | none => rfl
          | some o => have := hsN q; rw [hD] at this; cases this
        refine lc_it (walk_sqB (p := true) (xs := zs2.map V.str)) (fun j G4 => ∃ acc : List Str, hs p cl G4 D = some (.lst (acc.map V.str)) ∧ acc.Sublist (zs2.take j) ∧ Same (hs p cl G3) (hs p cl G4) ∧ SAt G4 p cl (c + 10 + 14 * i + 7 + j)) ⟨[], hs_of upd_same d1 d2, List.nil_sublist _, hs_mono (same_new hD), stY.up d1 d2⟩ (fun j G4 _ pr => ?_) (fun j x G4 G5 hj pr y => ?_) fun G4 pr => ?_
        · obtain ⟨_, _, _, k8, _⟩ := pr
          exact .of (hsN (k8 _ _ eY))
        · obtain ⟨acc, eD, sD, k8, st8⟩ := pr
          obtain ⟨e9, ex⟩ := y
          subst e9
          rw [List.length_map] at hj
          rw [List.getElem?_map] at ex
          obtain ⟨z, ez, rfl⟩ := Option.map_eq_some_iff.mp ex
          have et : zs2.take (j + 1) = zs2.take j ++ [z] := by rw [List.take_add_one, ez]; rfl
          refine ⟨rfl, _, rfl, p, cl, c + 10 + 14 * i + 7 + j, 2, rfl, by decide, by decide, by omega, st8, fun b G6 hb k9 st9 => ⟨rfl, _, rfl, ?_⟩⟩
          have eD6 := k9 _ _ eD
          have k89 := k8.trans k9
          by_cases hb0 : V.int (b : Nat) = V.int 0
          · rw [decide_eq_true hb0]
            refine (if_pos rfl).mpr ⟨_, rfl, _, hsN eD6, ?_, acc ++ [z], ?_, by rw [et]; exact sD.append (List.Sublist.refl _), ?_, st9.up d1 d2⟩
            · rw [List.length_map]
              have := sD.length_le
              rw [List.length_take] at this
              omega
            · rw [List.map_append]
              exact hs_of upd_same d1 d2
            · rw [hs_up d1 d2]
              intro c' o e
              rw [upd_ne (fun z => by rw [z, fD] at e; cases e)]
              exact k89 _ _ e
          · rw [decide_eq_false hb0]
            refine (if_neg Bool.false_ne_true).mpr ⟨acc, eD6, by rw [et]; exact sD.trans (List.sublist_append_left _ _), k89, st9⟩
        · obtain ⟨acc, eD, sD, k8, st8⟩ := pr
          have lzz : (zs2.map V.str).length = zs2.length := List.length_map _
          rw [lzz] at st8 sD
          rw [List.take_length] at sD
          have rr := r2.sub sD
          have eX4 := (kY.trans k8) _ _ eX
          have nDa : D ≠ aL := fun z => by
            have := kY _ _ eX
            rw [← z, fD] at this
            cases this
          obtain ⟨aL1, aL2, eXX⟩ := hs_at eX4
          have fX : hs p cl H4 aL = none := fL
          refine ⟨aL, xs', .ref D, rfl, rfl, eXX, by omega, ?_⟩
          refine ⟨_, xs' ++ [.ref D], rfl, hs_of upd_same aL1 aL2, by rw [List.length_append, lX]; show xs.length + i + 1 = _; omega, fun v hv => ?_, ?_, (st8.up aL1 aL2).le (by omega)⟩
          · rw [hs_up aL1 aL2]
            rcases List.mem_append.mp hv with hv | hv
            · obtain ⟨b, row, e, h1, h2, h3⟩ := RowV.ne eX4 hv ((rX v hv).keep (kY.trans k8))
              exact ⟨b, row, e, by rw [upd_ne h3]; exact h1, h2⟩
            · exact ⟨D, acc, List.mem_singleton.mp hv, by rw [upd_ne nDa]; exact eD, rr⟩
          · rw [hs_up aL1 aL2]
            intro c' o e
            rw [upd_ne (fun z => by rw [z, fX] at e; cases e)]
            exact (kX.trans (kY.trans k8)) _ _ e
      · obtain ⟨v5, xs', rfl, eX, lX, rX, kX, stX⟩ := pr
        dsimp only
        refine seq_of (fun σ G => ∃ ws, σ = [some (.ref p), some (.int (most : Nat)), some (.ref nA), some (.ref aL), some (.int (wy : Nat)), v5, none, none] ∧ hs p cl G aL = some (.lst ws) ∧ ws ≠ [] ∧ ws.length ≤ 10 ∧ (∀ v ∈ ws, RowV okNames (hs p cl G) v) ∧ Same (hs p cl H4) (hs p cl G) ∧ SAt G p cl (c + 66)) (fun σ G pr => ?_) fun R hR => ?_
        · obtain ⟨ws, rfl, eW, hW, lW, rW, kW, stW⟩ := pr
          refine ⟨_, rfl, _, rfl, _, rfl, p, cl, c + 66, aL, ws, rfl, eW, by omega, by omega, stW, fun l2 ys2 G3 pr2 hl2 eY kY stY => ?_⟩
          refine ⟨_, rfl, l2, ys2, rfl, .of (hsN eY), fun aA haA => ⟨by show 2 ≤ sizeLine; decide, fun q hq => ?_⟩⟩
          have ec : cutV ys2 none (some (5 : Int)) = ys2.take 5 := cut_take ys2 5
          rw [ec] at hq ⊢
          obtain ⟨w1, w2⟩ := stY.new haA
          have stA := stY.up (o := .lst (ys2.take 5)) w1 w2
          have eA : hs p cl (upd G3 aA (.lst (ys2.take 5))) aA = some (.lst (ys2.take 5)) := hs_of upd_same w1 w2
          have kA : Same (hs p cl G3) (hs p cl (upd G3 aA (.lst (ys2.take 5)))) := hs_mono (same_new haA)
          generalize upd G3 aA (.lst (ys2.take 5)) = G4 at hq stA eA kA
          obtain ⟨w3, w4⟩ := stA.new hq
          have kq : Same (hs p cl G4) (hs p cl (upd G4 q (.tup [.ref nA, .ref aA]))) := hs_mono (same_new hq)
          have hrows : ∀ v ∈ ys2.take 5, RowV okNames (hs p cl (upd G4 q (.tup [.ref nA, .ref aA]))) v := fun v hv => ((rW v (pr2.mem_iff.mp (List.mem_of_mem_take hv))).keep (kY.trans kA)).keep kq
          obtain ⟨rs, rows, er, lr, hok, hat⟩ := rows_of hrows
          have kall := ((kW.trans kY).trans kA).trans kq
          have lrow : rows.length = min 5 ws.length := by
            have := congrArg List.length er
            rw [List.length_map, List.length_take, pr2.length_eq] at this
            omega
          have hw0 : 0 < ws.length := List.length_pos_iff.mpr hW
          refine k q nA aA names rows _ (hs_of upd_same w3 w4) (kall _ _ e4) ⟨rs, ?_, lr, hat⟩ (List.length_pos_iff.mp l0) r0.ok ln r0.2.1 ⟨List.length_pos_iff.mp (by omega), by omega, hok⟩ (k4.trans kall) ((stA.up w3 w4).le (by omega))
          show hs p cl _ aA = _
          rw [← er]
          exact kq _ _ eA
        · refine ⟨_, rfl, rfl, _, rfl, ?_⟩
          have lX10 : xs'.length ≤ 10 := by omega
          have lX0 : 0 < xs'.length := by omega
          have stX' : SAt G2 p cl (c + 66) := stX.le (by omega)
          by_cases hw1 : V.int (wy : Nat) = V.int 1
          · rw [decide_eq_true hw1]
            have elast : xs'[xs'.length - 1]? = some (xs'[xs'.length - 1]'(by omega)) := List.getElem?_eq_getElem (by omega)
            obtain ⟨b, row, ev, hb, hrow, hbL⟩ := RowV.ne eX (List.mem_of_getElem? elast) (rX _ (List.mem_of_getElem? elast))
            rw [ev] at elast
            have eat : atI xs' (-1) = some (.ref b) := by
              unfold atI
              rw [ixN_last lX0]
              exact elast
            obtain ⟨aL1, aL2, eXX⟩ := hs_at eX
            refine iteT ⟨_, rfl, _, rfl, aL, xs', _, .ref b, rfl, rfl, .of eXX, eat, by show 1 ≤ sizeLine; decide, fun b1 hb1 => ?_⟩
            obtain ⟨y1, y2⟩ := stX'.new hb1
            have z1 := stX'.up (o := .lst [.str sStr]) y1 y2
            have z2 : Same G2 (upd G2 b1 (.lst [.str sStr])) := same_new hb1
            have z3 : (upd G2 b1 (.lst [.str sStr])) b1 = some (.lst [.str sStr]) := upd_same
            have hb' := hsN hb
            refine ⟨b, b1, row.map V.str, [.str sStr], rfl, rfl, z2 _ _ hb', z3, ?_, fun b2 hb2 => ?_⟩
            · rw [List.length_map]
              have := hrow.2.1
              show row.length + 1 ≤ sizeLine
              omega
            have ecat : row.map V.str ++ [.str sStr] = (row ++ [sStr]).map V.str := by rw [List.map_append]; rfl
            rw [ecat] at *
            obtain ⟨y3, y4⟩ := z1.new hb2
            have z4 := z1.up (o := .lst ((row ++ [sStr]).map V.str)) y3 y4
            have z5 : Same (upd G2 b1 (.lst [.str sStr])) (upd (upd G2 b1 (.lst [.str sStr])) b2 (.lst ((row ++ [sStr]).map V.str))) := same_new hb2
            have z6 : (upd (upd G2 b1 (.lst [.str sStr])) b2 (.lst ((row ++ [sStr]).map V.str))) b2 = some (.lst ((row ++ [sStr]).map V.str)) := upd_same
            have z7 := z2.trans z5
            have nb2 : b2 ≠ aL := fun z => by
              have := z2 _ _ eXX
              have hb3 : (upd G2 b1 (.lst [.str sStr])) b2 = none := hb2
              rw [← z, hb3] at this
              cases this
            refine ⟨_, rfl, _, rfl, aL, xs', _, xs'.length - 1, rfl, rfl, z7 _ _ eXX, ixN_last lX0, hR _ _ ⟨xs'.set (xs'.length - 1) (.ref b2), rfl, hs_of upd_same aL1 aL2, ?_, ?_, fun v hv => ?_, ?_, z4.up aL1 aL2⟩⟩
            · refine List.length_pos_iff.mp ?_
              rw [List.length_set]; exact lX0
            · rw [List.length_set]; exact lX10
            · rw [hs_up aL1 aL2]
              rcases List.mem_or_eq_of_mem_set hv with hv | hv
              · obtain ⟨b', row', e, h1, h2, h3⟩ := RowV.ne eX hv (rX v hv)
                exact ⟨b', row', e, by rw [upd_ne h3]; exact hs_mono z7 _ _ h1, h2.ok⟩
              · exact ⟨b2, row ++ [sStr], hv, by rw [upd_ne nb2]; exact hs_of z6 y3 y4, hrow.stranger⟩
            · rw [hs_up aL1 aL2]
              intro c' o e
              rw [upd_ne (fun z => by rw [z, fL] at e; cases e)]
              exact hs_mono z7 _ _ (kX _ _ e)
          · rw [decide_eq_false hw1]
            exact iteF (hR _ _ ⟨xs', rfl, eX, List.length_pos_iff.mp lX0, lX10, fun v hv => (rX v hv).imp fun r h => h.ok, kX, stX'⟩)
    · refine ⟨_, rfl, rfl, _, rfl, ?_⟩
      by_cases hw0 : V.int (wy : Nat) = V.int 0
      · rw [decide_eq_true hw0]
        have r07 := r0.2.1
        refine iteT ⟨_, rfl, _, _, rfl, .inl ⟨_, .of (hsN n46), rfl⟩, _, _, rfl, ⟨by omega, by omega, by omega, by rw [List.length_map]; omega⟩, ?_⟩
        intro D hD
        obtain ⟨d1, d2⟩ := st6.new hD
        have fD4 : hs p cl H4 D = none := by
          cases q : hs p cl H4 D with
          | none => rfl
          | some o => have := hsN (k46 _ _ q); rw [hD] at this; cases this
        have ejl : ((((names.map V.str).length : Nat) : Int) - 1).toNat = names.length - 1 := by rw [List.length_map]; omega
        rw [ejl]
        refine lc_range (lo := 1) (n := names.length - 1) (fun i G => ∃ acc, hs p cl G D = some (.lst acc) ∧ acc.length = i ∧ (∀ v ∈ acc, RowV R0 (hs p cl G) v) ∧ Same (hs p cl H4) (hs p cl G) ∧ SAt G p cl (c + 9)) ⟨[], hs_of upd_same d1 d2, rfl, (fun _ h => nomatch h), k46.trans (hs_mono (same_new hD)), st6.up d1 d2⟩ (fun i G hi pr => ?_) fun G pr => ?_
        · obtain ⟨acc, eD, lD, rD, kD, stD⟩ := pr
          refine ⟨rfl, _, rfl, _, rfl, _, rfl, nA, _, rfl, .of (hsN (kD _ _ e4)), fun b hb => ?_⟩
          have ei2 : (1 : Int) + ((i : Nat) : Int) = ((1 + i : Nat) : Int) := by omega
          rw [ei2, cut_take, ← List.map_take] at *
          obtain ⟨y1, y2⟩ := stD.new hb
          have z2 : Same G (upd G b (.lst ((names.take (1 + i)).map V.str))) := same_new hb
          have nbD : b ≠ D := fun z => by rw [z, hsN eD] at hb; cases hb
          refine ⟨acc, z2 _ _ (hsN eD), by omega, acc ++ [.ref b], hs_of upd_same d1 d2, by rw [List.length_append, lD]; rfl, fun v hv => ?_, ?_, (stD.up y1 y2).up d1 d2⟩
          · rw [hs_up d1 d2]
            rcases List.mem_append.mp hv with hv | hv
            · obtain ⟨b', row', e, h1, h2, h3⟩ := RowV.ne eD hv (rD v hv)
              exact ⟨b', row', e, by rw [upd_ne h3]; exact hs_mono z2 _ _ h1, h2⟩
            · exact ⟨b, names.take (1 + i), List.mem_singleton.mp hv, by rw [upd_ne nbD]; exact hs_of upd_same y1 y2, r0.sub (List.take_sublist _ _)⟩
          · rw [hs_up d1 d2]
            intro c' o e
            rw [upd_ne (fun z => by rw [z, fD4] at e; cases e)]
            exact hs_mono z2 _ _ (kD _ _ e)
        · obtain ⟨acc, eD, lD, rD, kD, stD⟩ := pr
          exact hR _ _ ⟨D, acc, rfl, eD, fD4, by omega, rD, kD, stD⟩
      · rw [decide_eq_false hw0]
        exact iteF (hR _ _ ⟨a1, [], rfl, e6, f1, by decide, (fun _ h => nomatch h), k46, st6⟩)
end
end My

set_option Elab.async false
set_option linter.all false
set_option maxRecDepth 100000
set_option maxHeartbeats 4000000
namespace My
open PySem PySem.Spec PyProof.Rows L2
def chk (names : List Str) (rows : List (List Str)) (most : Int) (due : Nat) : Bool := (List.range names.length).all (fun i => !dupAt (names.map (colOf rows)) i) && (En most (signsOf names rows) due (st0 names.length) && (List.range due).all fun j => !En most (signsOf names rows) j (st0 names.length))
theorem chk_few {names : List Str} {rows : List (List Str)} {most : Int} {due : Nat} {v : V} (h : chk names rows most due = true) (f : FewV names most (signsOf names rows) v) : v = .int (due : Nat) := by
  unfold chk at h
  rw [Bool.and_eq_true, Bool.and_eq_true] at h
  obtain ⟨h1, h2, h3⟩ := h
  have hp : Parted names.length (signsOf names rows) := parted_iff.mpr fun i hi => by
    have := List.all_eq_true.mp h1 i (List.mem_range.mpr hi)
    simpa using this
  have hl : Least most (signsOf names rows) names.length due := ⟨h2, fun j hj => by
    have := List.all_eq_true.mp h3 j (List.mem_range.mpr hj)
    simpa using this⟩
  rcases f with ⟨_, n⟩ | ⟨_, m, _, rfl, l⟩
  · exact absurd hp n
  · rw [l.one hl]
def okB (row : List Str) : Bool := row.all goodN && (decide row.Nodup && decide (row.length ≤ 20))
theorem okB_ok {row : List Str} (h : okB row = true) : okNames row := by
  unfold okB at h
  rw [Bool.and_eq_true, Bool.and_eq_true] at h
  exact ⟨h.1, of_decide_eq_true h.2.1, of_decide_eq_true h.2.2⟩
theorem okRows_of {rows : List (List Str)} (h : (decide (rows.length ≠ 0) && (decide (rows.length ≤ 20) && rows.all okB)) = true) : okRows rows := by
  rw [Bool.and_eq_true, Bool.and_eq_true] at h
  refine ⟨fun z => (of_decide_eq_true h.1) (by rw [z]; rfl), of_decide_eq_true h.2.1, fun row hr => okB_ok (List.all_eq_true.mp h.2.2 row hr)⟩
def dueOf (m : Nat) : Nat := (([1, 2, 4] : List Int).filterMap fun k => if k < ((m : Nat) : Int) then some (V.int k) else none).length
def rowsOf (m : Nat) : List (List Str) := (List.range m).map fun i => (seven.take m).take (1 + i)
def lotsF (ns : List Str) : List (List Str) := ns.foldl (fun acc n => acc ++ acc.map fun l => l ++ [n]) [[]]
def rowsB (rows : List (List Str)) : Bool := decide (rows.length ≠ 0) && (decide (rows.length ≤ 20) && rows.all okB)
theorem known_all : ∀ m ∈ [1, 2, 3, 4, 5, 6, 7], (chk (seven.take m) (rowsOf m) 0 (dueOf m) && (chk (seven.take m) ([] :: (rowsOf m).reverse) 0 (dueOf m) && (chk ((seven.take m).take 3) (lotsF ((seven.take m).take 3)) 0 (if dueOf m > 2 then 2 else dueOf m) &&
    (chk ((seven.take m).take 2) ((rowsOf m).take 1) 1 (if 1 < m then 3 else 0) && (rowsB (rowsOf m) && (rowsB ([] :: (rowsOf m).reverse) && (rowsB (lotsF ((seven.take m).take 3)) && rowsB ((rowsOf m).take 1)))))))) = true := by decide +kernel
theorem lots_small : ∀ m ∈ [1, 2, 3, 4, 5, 6, 7], ∀ j ∈ [0, 1, 2, 3], (decide ((lotsF (((seven.take m).take 3).take j)).length ≤ 8) && (lotsF (((seven.take m).take 3).take j)).all fun r => decide (r.length ≤ 3)) = true := by decide +kernel
theorem lots_snoc (ns : List Str) (z : Str) : lotsF (ns ++ [z]) = lotsF ns ++ (lotsF ns).map fun l => l ++ [z] := by
  unfold lotsF
  rw [List.foldl_append]
  rfl
theorem mem7 : ∀ i < 7, 1 + i ∈ [1, 2, 3, 4, 5, 6, 7] := by decide
theorem mem03 : ∀ j < 4, j ∈ [0, 1, 2, 3] := by decide
theorem rev_at {α : Type} {xs : List α} {j : Nat} {x : α} (h : xs.reverse[j]? = some x) : j < xs.length ∧ xs[xs.length - 1 - j]? = some x := by
  have hj := (List.getElem?_eq_some_iff.mp h).1
  rw [List.length_reverse] at hj
  rw [List.getElem?_reverse hj] at h
  exact ⟨hj, h⟩
theorem given_of {H : Hp} {su ask : Addr} {names : List Str} {rows : List (List Str)} (h1 : H su = some (.lst (names.map V.str))) (h2 : RL H ask rows) (h3 : names ≠ []) (h4 : R0 names) (h5 : rowsB rows = true) : Given H su ask names rows :=
  ⟨⟨true, h1⟩, ⟨true, h2.at⟩, h3, h4.ok, h4.2.1, okRows_of h5⟩
def spKnown : Sp := fun vs H Q _ => ∃ p cl c, vs = [.ref p] ∧ c + 1000 < 1000000 ∧ SAt H p cl c ∧ ∀ H', Same (hs p cl H) (hs p cl H') → SAt H' p cl (c + 1) → Q (.bl true) H'
abbrev nKn : List Str := ["_law_stream", "_law_many", "_law_names", "_law_due", "_law_rows", "_law_found", "_law_lots", "_law_name", "_law_k", "_law_at", "_law_lot"]
theorem sc_kn : FnScope nKn ["_law_stream"] (defScope s__law_known_right) := ⟨rfl, rfl, rfl, by decide +kernel, rfl, by decide +kernel, by decide +kernel⟩
section
variable {P : Program} {w : World} {K : PySem.W.Frag} {mg : Str → Option Value} {base : Heap}
theorem ok_kn (T : TX K mg) : Ok P w K mg base 48 ("_law_known_right", none) ["_law_stream"] [] spKnown := by
  refine ok_def (d := d__law_known_right) T.fd_d__law_known_right rfl rfl sc_kn (fun _ _ _ _ _ _ us hl => match us, hl with | [_], _ => rfl) (fun vs H Q E h => ?_) fun cdv A outer s H vs Q E hr h => ?_
  · obtain ⟨_, _, _, rfl, _⟩ := h
    rfl
  · obtain ⟨p, cl, c, rfl, hc, st, k⟩ := h
    have hz : sizeLine = 16777216 := sizeLine_eq
    have hu := hr.units
    refine ⟨_, pss_cons (ps_set (i := 1) sc_kn.nd rfl (Or.inr rfl) (pe_op op_add pe_int (pe_f (ok_draw T) hr (by decide) T.g__law_draw (by rfl) (pa_cons (pv 0) (pa_cons pe_int pa_nil)))))
      (pss_cons (ps_set (i := 2) sc_kn.nd rfl (Or.inr rfl) (pe_slice sl_list (pe_lst (pa_cons pe_str (pa_cons pe_str (pa_cons pe_str (pa_cons pe_str (pa_cons pe_str (pa_cons pe_str (pa_cons pe_str pa_nil)))))))) po_none (po_some (pv 1))))
      (pss_cons (ps_set (i := 3) sc_kn.nd rfl (Or.inl rfl) (pe_callB call_len (by rfl) T.f_len PySem.boot_len (pa_cons (pe_lc (own := [("_law_k", 8)]) (g := gName 8) (tt := tTest (tOp (rI0 fun i j => .bl (decide (i < j))) (tVar 8) (tVar 1))) (te := tVar 8) rfl sc_kn.nd (pi_sqB (pe_tup (pa_cons pe_int (pa_cons pe_int (pa_cons pe_int pa_nil)))))
          (blkOk_by (N := nKn) (sc := defScope s__law_known_right) (by decide +kernel)) (fun _ _ _ _ _ => pg_name (i := 8) sc_kn.nd rfl (Or.inl rfl)) (fun _ _ _ _ _ => pts_one (pt_cmpR op_lt (pv 8) (pv 1) (nomark _))) (fun _ _ _ _ _ => pv 8)) pa_nil)))
      (pss_cons (ps_setLc (i := 4) (own := [("_law_at", 9)]) (g := gName 9) (tt := tYes) (te := tSl (rSlL K) (tVar 2) tNoPart (tPart (tVar 9))) rfl sc_kn.nd rfl rfl (sw_true rfl rfl rfl (by decide +kernel))
          (pi_range2 (by rfl) T.f_range (pa_cons pe_int (pa_cons (pe_op op_add (pv 1) pe_int) pa_nil))) (blkOk_by (N := nKn) (sc := defScope s__law_known_right) (by decide +kernel)) (fun _ _ _ _ _ => pg_name (i := 9) sc_kn.nd rfl (Or.inl rfl)) (fun _ _ _ _ _ => pts_nil)
          (fun _ _ _ _ _ => pe_slice sl_list (pv 2) po_none (po_some (pv 9))))
      (pss_cons (ps_set (i := 5) sc_kn.nd rfl (Or.inl rfl) (pe_lst (pa_cons (pe_f (ok_few2 T) hr (by decide) T.g_fewest_askings (by rfl) (pa_cons (pv 2) (pa_cons (pv 4) pa_nil)))
          (pa_cons (pe_f (ok_few2 T) hr (by decide) T.g_fewest_askings (by rfl) (pa_cons (pv 2) (pa_cons (pe_op op_cat (pe_lst (pa_cons (pe_lst pa_nil) pa_nil)) (pe_revL (pv 4))) pa_nil))) pa_nil))))
      (pss_cons (ps_set (i := 6) sc_kn.nd rfl (Or.inl rfl) (pe_lst (pa_cons (pe_lst pa_nil) pa_nil)))
      (pss_cons (ps_for PassesOwn.never rfl (pi_sqB (pe_slice sl_list (pv 2) po_none (po_some pe_int))) (pg_name (i := 7) sc_kn.nd rfl (Or.inr rfl))
        (pss_one (ps_set (i := 6) sc_kn.nd rfl (Or.inl rfl) (pe_op op_cat (pv 6) (pe_lc (own := [("_law_lot", 10)]) (g := gName 10) (tt := tYes) (te := tOp rCat (tVar 10) (tLst (tCons (tVar 7) tNil))) rfl sc_kn.nd (pi_sqB (pv 6))
          (blkOk_by (N := nKn) (sc := defScope s__law_known_right) (by decide +kernel)) (fun _ _ _ _ _ => pg_name (i := 10) sc_kn.nd rfl (Or.inl rfl)) (fun _ _ _ _ _ => pts_nil) (fun _ _ _ _ _ => pe_op op_cat (pv 10) (pe_lst (pa_cons (pv 7) pa_nil))))))))
      (pss_cons (ps_expr (pe_bm PySem.F.plainAttrs_list PySem.F.slot_list_append PySem.F.type_list_append mt_append (pv 5) (pa_cons (pe_f (ok_few2 T) hr (by decide) T.g_fewest_askings (by rfl) (pa_cons (pe_slice sl_list (pv 2) po_none (po_some pe_int)) (pa_cons (pv 6) pa_nil))) pa_nil)))
      (pss_one (ps_ret (pe_and (pe_cmpR (op_eqD hu) (pv 5) (pe_lst (pa_cons (pv 3) (pa_cons (pv 3) (pa_cons (pe_callB (call_min2 rfl) (by rfl) T.f_min b_min (pa_cons (pv 3) (pa_cons pe_int pa_nil))) pa_nil)))) (nomark _))
        (pe_one (pe_cmpR op_eq (pe_f (ok_few3 T) hr (by decide) T.g_fewest_askings (by rfl) (pa_cons (pe_slice sl_list (pv 2) po_none (po_some pe_int)) (pa_cons (pe_slice sl_list (pv 4) po_none (po_some pe_int)) (pa_cons pe_int pa_nil))))
          (pe_op op_mul pe_int (pe_callTy call_int1 (by rfl) T.f_int b_int (pa_cons (pe_cmpR op_gt (pv 1) pe_int (nomark _)) pa_nil))) (nomark _))))))))))))), ?_⟩
    refine ⟨_, rfl, p, cl, c, 7, rfl, by decide, by decide, by omega, st, fun i H1 hi k1 st1 => ⟨_, _, rfl, rfl, ?_⟩⟩
    have ei : (1 : Int) + ((i : Nat) : Int) = ((1 + i : Nat) : Int) := by omega
    have hm7 := mem7 i hi
    have ka := known_all _ hm7
    have ls := lots_small _ hm7
    rw [Bool.and_eq_true, Bool.and_eq_true, Bool.and_eq_true, Bool.and_eq_true, Bool.and_eq_true, Bool.and_eq_true, Bool.and_eq_true] at ka
    obtain ⟨c1, c2, c3, c4, b1, b2, b3, b4⟩ := ka
    have r0 : R0 (seven.take (1 + i)) := R0_seven.sub (List.take_sublist _ _)
    have ln : (seven.take (1 + i)).length = 1 + i := by rw [List.length_take]; show min (1 + i) 7 = 1 + i; omega
    have nne : seven.take (1 + i) ≠ [] := fun z => by rw [z] at ln; have : (0 : Nat) = 1 + i := ln; omega
    refine ⟨by show 7 ≤ sizeLine; decide, fun a0 ha0 => ⟨_, rfl, _, rfl, a0, seven.map V.str, rfl, .of upd_same, fun nA hnA => ?_⟩⟩
    rw [ei, cut_take, ← List.map_take]
    have s2 : Same H1 (upd (upd H1 a0 (.lst (seven.map V.str))) nA (.lst ((seven.take (1 + i)).map V.str))) := (same_new ha0).trans (same_new hnA)
    have eN : (upd (upd H1 a0 (.lst (seven.map V.str))) nA (.lst ((seven.take (1 + i)).map V.str))) nA = some (.lst ((seven.take (1 + i)).map V.str)) := upd_same
    refine ⟨by show 3 ≤ sizeLine; decide, fun t0 ht0 => ⟨false, t0, _, rfl, .of upd_same, fun D1 hD1 => lc_fm (walk_sqB (p := false) (xs := ([1, 2, 4] : List Int).map V.int)) (fun j => (([1, 2, 4] : List Int)[j]?).bind fun k => if k < ((1 + i : Nat) : Int) then some (V.int k) else none) (by show 3 ≤ 100000; decide) hD1
      (fun G s => .of (s _ _ upd_same)) (fun j x G G' hj s3 y R N kR kN => ?_) fun G3 s3 h3 => ?_⟩⟩
    · obtain ⟨e5, ex⟩ := y
      subst e5
      rw [List.getElem?_map] at ex
      obtain ⟨z, ez, rfl⟩ := Option.map_eq_some_iff.mp ex
      refine ⟨rfl, _, rfl, _, rfl, _, _, rfl, rfl, _, rfl, ?_⟩
      by_cases hz1 : z < 1 + ((i : Nat) : Int)
      · rw [decide_eq_true hz1]
        refine (if_pos rfl).mpr ⟨_, rfl, kR _ _ ?_ (Same.refl _)⟩
        rw [ez]
        show (if z < ((1 + i : Nat) : Int) then some (V.int z) else none) = _
        rw [if_pos (by omega)]
      · rw [decide_eq_false hz1]
        refine (if_neg Bool.false_ne_true).mpr (kN _ ?_ (Same.refl _))
        rw [ez]
        show (if z < ((1 + i : Nat) : Int) then some (V.int z) else none) = _
        rw [if_neg (by omega)]
    have h3' : G3 D1 = some (.lst (([1, 2, 4] : List Int).filterMap fun k => if k < ((1 + i : Nat) : Int) then some (V.int k) else none)) := by rw [← fm_fm]; exact h3
    refine ⟨_, _, rfl, .inl ⟨_, .of h3', rfl⟩, ?_⟩
    have s13 : Same H1 G3 := s2.trans ((same_new ht0).trans s3)
    have eN3 : G3 nA = some (.lst ((seven.take (1 + i)).map V.str)) := s3 _ _ (same_new ht0 _ _ eN)
    refine ⟨_, rfl, _, _, rfl, rfl, _, _, rfl, ⟨by omega, by omega, by omega, by omega⟩, ?_⟩
    intro D hD
    have ejl : ((1 : Int) + ((i : Nat) : Int) + 1 - 1).toNat = 1 + i := by omega
    rw [ejl]
    refine lc_range (lo := 1) (n := 1 + i) (fun j G => ∃ bs : List Addr, G D = some (.lst (bs.map V.ref)) ∧ bs.length = j ∧ (∀ (t : Nat) b, bs[t]? = some b → G b = some (.lst (((seven.take (1 + i)).take (1 + t)).map V.str)) ∧ b ≠ D) ∧ Same G3 G) ⟨[], upd_same, rfl, (fun t b e => by simp at e), same_new hD⟩ (fun j G hj pr => ?_) fun G4 pr => ?_
    · obtain ⟨bs, eD, lD, rD, kD⟩ := pr
      refine ⟨rfl, _, rfl, _, rfl, _, rfl, nA, _, rfl, .of (kD _ _ eN3), fun b hb => ?_⟩
      have ej : (1 : Int) + ((j : Nat) : Int) = ((1 + j : Nat) : Int) := by omega
      rw [ej, cut_take, ← List.map_take]
      have z2 : Same G (upd G b (.lst (((seven.take (1 + i)).take (1 + j)).map V.str))) := same_new hb
      have nbD : b ≠ D := fun z => by rw [z, eD] at hb; cases hb
      refine ⟨_, z2 _ _ eD, by rw [List.length_map]; omega, bs ++ [b], ?_, by rw [List.length_append, lD]; rfl, fun t b' e => ?_, fun c' o e => ?_⟩
      · rw [upd_same, List.map_append]
        rfl
      · by_cases ht : t < bs.length
        · rw [List.getElem?_append_left ht] at e
          obtain ⟨a1, a2⟩ := rD t b' e
          exact ⟨by rw [upd_ne a2]; exact z2 _ _ a1, a2⟩
        · rw [List.getElem?_append_right (by omega)] at e
          have t0' : t - bs.length = 0 := by
            have := (List.getElem?_eq_some_iff.mp e).1
            simp at this
            omega
          rw [t0'] at e
          have e' : b = b' := by simpa using e
          have et : t = j := by omega
          rw [← e', et]
          exact ⟨by rw [upd_ne nbD]; exact upd_same, nbD⟩
      · rw [upd_ne (ne_of_none e hD)]
        exact z2 _ _ (kD _ _ e)
    obtain ⟨bs, eD, lD, rD, k34⟩ := pr
    have rl4 : RL G4 D (rowsOf (1 + i)) := ⟨bs, eD, by unfold rowsOf; rw [List.length_map, List.length_range]; exact lD, fun j b row e1 e2 => by
      have hj : j < 1 + i := by rw [← lD]; exact (List.getElem?_eq_some_iff.mp e1).1
      unfold rowsOf at e2
      rw [List.getElem?_map, List.getElem?_range hj] at e2
      cases e2
      exact (rD j b e1).1⟩
    have eN4 := k34 _ _ eN3
    refine ⟨_, rfl, _, rfl, nA, D, seven.take (1 + i), rowsOf (1 + i), 0, rfl, .inl rfl, given_of eN4 rl4 nne r0 b1, fun v1 G5 s5 f1 => ?_⟩
    have ev1 := chk_few c1 f1
    subst ev1
    have rl5 := rl4.keep s5
    have eD5 := s5 _ _ eD
    refine ⟨_, rfl, by show 0 ≤ sizeLine; decide, fun x0 hx0 => ⟨by show 1 ≤ sizeLine; decide, fun x1 hx1 => ?_⟩⟩
    have y0 : Same G5 (upd G5 x0 (.lst [])) := same_new hx0
    have z0 : (upd G5 x0 (.lst [])) x0 = some (.lst []) := upd_same
    generalize upd G5 x0 (.lst []) = G6 at y0 z0 hx1
    have y1 : Same G6 (upd G6 x1 (.lst [.ref x0])) := same_new hx1
    have z1 : (upd G6 x1 (.lst [.ref x0])) x1 = some (.lst [.ref x0]) := upd_same
    generalize upd G6 x1 (.lst [.ref x0]) = G7 at y1 z1
    have s57 := y0.trans y1
    refine ⟨_, rfl, D, _, rfl, .of (s57 _ _ eD5), fun x2 hx2 => ?_⟩
    have y2 : Same G7 (upd G7 x2 (.lst (bs.map V.ref).reverse)) := same_new hx2
    have z2 : (upd G7 x2 (.lst (bs.map V.ref).reverse)) x2 = some (.lst (bs.map V.ref).reverse) := upd_same
    generalize upd G7 x2 (.lst (bs.map V.ref).reverse) = G8 at y2 z2
    refine ⟨x1, x2, _, _, rfl, rfl, y2 _ _ z1, z2, by rw [List.length_reverse, List.length_map]; show 1 + bs.length ≤ sizeLine; omega, fun x3 hx3 => ?_⟩
    have y3 : Same G8 (upd G8 x3 (.lst ([V.ref x0] ++ (bs.map V.ref).reverse))) := same_new hx3
    have z3 : (upd G8 x3 (.lst ([V.ref x0] ++ (bs.map V.ref).reverse))) x3 = some (.lst ([V.ref x0] ++ (bs.map V.ref).reverse)) := upd_same
    generalize upd G8 x3 (.lst ([V.ref x0] ++ (bs.map V.ref).reverse)) = G9 at y3 z3
    have s59 := s57.trans (y2.trans y3)
    have rl9 : RL G9 x3 ([] :: (rowsOf (1 + i)).reverse) := by
      obtain ⟨bs', a1, a2, a3⟩ := rl5
      rw [eD5] at a1
      have ebs : bs' = bs := by
        have a1 : bs.map V.ref = bs'.map V.ref := by injection a1 with a1; injection a1
        refine List.map_inj_right (f := V.ref) (fun a b h => by cases h; rfl) |>.mp a1.symm
      subst ebs
      refine ⟨x0 :: bs'.reverse, ?_, by rw [List.length_cons, List.length_cons, List.length_reverse, List.length_reverse, a2], fun j b row e1 e2 => ?_⟩
      · rw [z3, List.map_cons, List.map_reverse]
        rfl
      · cases j with
        | zero =>
          cases e1
          cases e2
          exact y3 _ _ (y2 _ _ (y1 _ _ z0))
        | succ j =>
          have e1 : bs'.reverse[j]? = some b := by simpa using e1
          have e2 : (rowsOf (1 + i)).reverse[j]? = some row := by simpa using e2
          obtain ⟨q1, q2⟩ := rev_at e1
          obtain ⟨q3, q4⟩ := rev_at e2
          rw [← a2] at q4
          exact s59 _ _ (a3 _ _ _ q2 q4)
    refine ⟨nA, x3, seven.take (1 + i), [] :: (rowsOf (1 + i)).reverse, 0, rfl, .inl rfl, given_of (s59 _ _ (s5 _ _ eN4)) rl9 nne r0 b2, fun v2 G10 s10 f2 => ?_⟩
    have ev2 := chk_few c2 f2
    subst ev2
    refine ⟨by show 2 ≤ sizeLine; decide, fun fA hfA => ?_⟩
    have s410 := s5.trans (s59.trans s10)
    have y4 : Same G10 (upd G10 fA (.lst [.int (dueOf (1 + i) : Nat), .int (dueOf (1 + i) : Nat)])) := same_new hfA
    have z4 : (upd G10 fA (.lst [.int (dueOf (1 + i) : Nat), .int (dueOf (1 + i) : Nat)])) fA = some (.lst [.int (dueOf (1 + i) : Nat), .int (dueOf (1 + i) : Nat)]) := upd_same
    have rl10 := rl4.keep s410
    have eN10 := s410 _ _ eN4
    have s1_10 := s13.trans (k34.trans s410)
    generalize upd G10 fA (.lst [.int (dueOf (1 + i) : Nat), .int (dueOf (1 + i) : Nat)]) = G11 at y4 z4
    refine ⟨by show 0 ≤ sizeLine; decide, fun w0 hw0 => ⟨by show 1 ≤ sizeLine; decide, fun w1 hw1 => ?_⟩⟩
    have y5 : Same G11 (upd G11 w0 (.lst [])) := same_new hw0
    have z5 : (upd G11 w0 (.lst [])) w0 = some (.lst []) := upd_same
    generalize upd G11 w0 (.lst []) = G12 at y5 z5 hw1
    have y6 : Same G12 (upd G12 w1 (.lst [.ref w0])) := same_new hw1
    have z6 : (upd G12 w1 (.lst [.ref w0])) w1 = some (.lst [.ref w0]) := upd_same
    generalize upd G12 w1 (.lst [.ref w0]) = G13 at y6 z6
    have rl13 : RL G13 w1 (lotsF []) := ⟨[w0], z6, rfl, fun j b row e1 e2 => by
      have hj : j < 1 := (List.getElem?_eq_some_iff.mp e1).1
      have hj0 : j = 0 := by omega
      subst hj0
      cases e1
      cases e2
      exact y6 _ _ z5⟩
    have s1013 := y4.trans (y5.trans y6)
    have ec3 : ∀ xs : List Str, cutV (xs.map V.str) none (some (3 : Int)) = (xs.take 3).map V.str := fun xs => by rw [List.map_take]; exact cut_take _ 3
    refine ⟨_, rfl, _, rfl, nA, _, rfl, .of (s1013 _ _ eN10), fun n3 hn3 => ?_⟩
    rw [ec3]
    have y7 : Same G13 (upd G13 n3 (.lst (((seven.take (1 + i)).take 3).map V.str))) := same_new hn3
    have z7 : (upd G13 n3 (.lst (((seven.take (1 + i)).take 3).map V.str))) n3 = some (.lst (((seven.take (1 + i)).take 3).map V.str)) := upd_same
    generalize upd G13 n3 (.lst (((seven.take (1 + i)).take 3).map V.str)) = G14 at y7 z7
    have s1014 := s1013.trans y7
    have l3 : ((seven.take (1 + i)).take 3).length ≤ 3 := by rw [List.length_take]; omega
    refine ⟨true, n3, _, rfl, .of z7, for_it (walk_sqB (p := true) (xs := ((seven.take (1 + i)).take 3).map V.str)) (fun j σ G => ∃ lA v7, σ = [some (.ref p), some (.int (1 + ((i : Nat) : Int))), some (.ref nA), some (.int (dueOf (1 + i) : Nat)), some (.ref D), some (.ref fA), some (.ref lA), v7, none, none, none] ∧
      RL G lA (lotsF (((seven.take (1 + i)).take 3).take j)) ∧ Same G14 G) ⟨w1, _, rfl, rl13.keep y7, Same.refl _⟩ (fun j σ G _ pr => ?_) (fun j x σ G G' hj pr y => ?_) fun σ G pr => ?_⟩
    · obtain ⟨_, _, _, _, k15⟩ := pr
      exact .of (k15 _ _ z7)
    · obtain ⟨lA, v7, rfl, rlA, k15⟩ := pr
      obtain ⟨e5, ex⟩ := y
      subst e5
      rw [List.length_map] at hj
      rw [List.getElem?_map] at ex
      obtain ⟨z, ez, rfl⟩ := Option.map_eq_some_iff.mp ex
      have lsj := ls j (mem03 j (by omega))
      rw [Bool.and_eq_true] at lsj
      have lrow : ∀ row ∈ lotsF (((seven.take (1 + i)).take 3).take j), row.length ≤ 3 := fun row hr => of_decide_eq_true (List.all_eq_true.mp lsj.2 row hr)
      have llot := of_decide_eq_true lsj.1
      have et : ((seven.take (1 + i)).take 3).take (j + 1) = ((seven.take (1 + i)).take 3).take j ++ [z] := by rw [List.take_add_one, ez]; rfl
      rw [et, lots_snoc]
      generalize lotsF (((seven.take (1 + i)).take 3).take j) = lots at rlA lrow llot
      obtain ⟨cs, a1, a2, a3⟩ := id rlA
      refine ⟨_, rfl, _, rfl, true, lA, _, rfl, .of a1, fun D6 hD6 => ?_⟩
      refine lc_it (walk_sqB (p := true) (xs := cs.map V.ref)) (fun t G4 => ∃ ds : List Addr, G4 D6 = some (.lst (ds.map V.ref)) ∧ ds.length = t ∧ (∀ (u : Nat) b row, ds[u]? = some b → lots[u]? = some row → G4 b = some (.lst ((row ++ [z]).map V.str)) ∧ b ≠ D6) ∧ Same G' G4) ⟨[], upd_same, rfl, (fun u b row e => by simp at e), same_new hD6⟩ (fun t G4 _ pr => ?_) (fun t x G4 G5 ht pr y => ?_) fun G4 pr => ?_
      · obtain ⟨_, _, _, _, k16⟩ := pr
        exact .of (k16 _ _ a1)
      · obtain ⟨ds, b1', b2', b3', k16⟩ := pr
        obtain ⟨e5, ex⟩ := y
        subst e5
        rw [List.length_map] at ht
        rw [List.getElem?_map] at ex
        obtain ⟨b, eb, rfl⟩ := Option.map_eq_some_iff.mp ex
        have erow : lots[t]? = some (lots[t]'(by omega)) := List.getElem?_eq_getElem (by omega)
        generalize lots[t]'(by omega) = row at erow
        have hb := k16 _ _ (a3 t b row eb erow)
        have lr := lrow row (List.mem_of_getElem? erow)
        refine ⟨rfl, _, rfl, _, rfl, by show 1 ≤ sizeLine; decide, fun q1 hq1 => ?_⟩
        have y8 : Same G5 (upd G5 q1 (.lst [.str z])) := same_new hq1
        have z8 : (upd G5 q1 (.lst [.str z])) q1 = some (.lst [.str z]) := upd_same
        generalize upd G5 q1 (.lst [.str z]) = G6' at y8 z8
        refine ⟨b, q1, row.map V.str, [.str z], rfl, rfl, y8 _ _ hb, z8, by rw [List.length_map]; show row.length + 1 ≤ sizeLine; omega, fun q2 hq2 => ?_⟩
        have ecat : row.map V.str ++ [.str z] = (row ++ [z]).map V.str := by rw [List.map_append]; rfl
        rw [ecat]
        have y9 : Same G6' (upd G6' q2 (.lst ((row ++ [z]).map V.str))) := same_new hq2
        have z9 : (upd G6' q2 (.lst ((row ++ [z]).map V.str))) q2 = some (.lst ((row ++ [z]).map V.str)) := upd_same
        have nq2 : q2 ≠ D6 := fun h => by rw [h, y8 _ _ b1'] at hq2; cases hq2
        generalize upd G6' q2 (.lst ((row ++ [z]).map V.str)) = G7' at y9 z9
        refine ⟨_, y9 _ _ (y8 _ _ b1'), by rw [List.length_map]; omega, ds ++ [q2], by rw [upd_same, List.map_append]; rfl, by rw [List.length_append, b2']; rfl, fun u b' row' e1 e2 => ?_, fun c' o e => ?_⟩
        · by_cases hu' : u < ds.length
          · rw [List.getElem?_append_left hu'] at e1
            obtain ⟨p1, p2⟩ := b3' u b' row' e1 e2
            exact ⟨by rw [upd_ne p2]; exact y9 _ _ (y8 _ _ p1), p2⟩
          · rw [List.getElem?_append_right (by omega)] at e1
            have t0' : u - ds.length = 0 := by
              have := (List.getElem?_eq_some_iff.mp e1).1
              simp at this
              omega
            rw [t0'] at e1
            have e' : q2 = b' := by simpa using e1
            have eu : u = t := by omega
            rw [eu, erow] at e2
            cases e2
            rw [← e']
            exact ⟨by rw [upd_ne nq2]; exact z9, nq2⟩
        · rw [upd_ne (ne_of_none e hD6)]
          exact y9 _ _ (y8 _ _ (k16 _ _ e))
      · obtain ⟨ds, b1', b2', b3', k16⟩ := pr
        rw [List.length_map] at b2'
        refine ⟨lA, D6, _, _, rfl, rfl, k16 _ _ a1, b1', by rw [List.length_map, List.length_map]; omega, fun q3 hq3 => ?_⟩
        have y10 : Same G4 (upd G4 q3 (.lst (cs.map V.ref ++ ds.map V.ref))) := same_new hq3
        refine ⟨q3, _, rfl, ⟨cs ++ ds, by rw [upd_same, List.map_append], by rw [List.length_append, List.length_append, List.length_map]; omega, fun u b row e1 e2 => ?_⟩, k15.trans (k16.trans y10)⟩
        by_cases hu' : u < cs.length
        · rw [List.getElem?_append_left hu'] at e1
          rw [List.getElem?_append_left (by omega)] at e2
          exact y10 _ _ (k16 _ _ (a3 u b row e1 e2))
        · rw [List.getElem?_append_right (by omega)] at e1
          rw [List.getElem?_append_right (by omega), List.getElem?_map] at e2
          obtain ⟨row0, er0, rfl⟩ := Option.map_eq_some_iff.mp e2
          rw [← a2] at er0
          exact y10 _ _ (b3' _ _ _ e1 er0).1
    · obtain ⟨lA, v7, rfl, rlA, k15⟩ := pr
      rw [List.length_map, List.take_length] at rlA
      have s10G := s1014.trans k15
      have hfG := k15 _ _ (y7 _ _ (y6 _ _ (y5 _ _ z4)))
      have r3 : R0 ((seven.take (1 + i)).take 3) := r0.sub (List.take_sublist _ _)
      have ne3 : (seven.take (1 + i)).take 3 ≠ [] := fun z => by have := congrArg List.length z; rw [List.length_take, ln] at this; have this : min 3 (1 + i) = 0 := this; omega
      refine ⟨_, rfl, .inl ⟨rfl, _, .of hfG⟩, _, rfl, _, rfl, nA, _, rfl, .of (s10G _ _ eN10), fun n4 hn4 => ?_⟩
      rw [ec3]
      have y11 : Same G (upd G n4 (.lst (((seven.take (1 + i)).take 3).map V.str))) := same_new hn4
      have z11 : (upd G n4 (.lst (((seven.take (1 + i)).take 3).map V.str))) n4 = some (.lst (((seven.take (1 + i)).take 3).map V.str)) := upd_same
      generalize upd G n4 (.lst (((seven.take (1 + i)).take 3).map V.str)) = G15 at y11 z11
      refine ⟨_, rfl, n4, lA, (seven.take (1 + i)).take 3, _, 0, rfl, .inl rfl, given_of z11 (rlA.keep y11) ne3 r3 b3, fun v3 G16 s16 f3 => ?_⟩
      have ev3 := chk_few c3 f3
      subst ev3
      have hf16 := s16 _ _ (y11 _ _ hfG)
      refine ⟨fA, _, _, rfl, rfl, hf16, by show 2 < sizeLine; decide, ?_⟩
      have sX : Same G10 (upd G16 fA (.lst ([V.int (dueOf (1 + i) : Nat), V.int (dueOf (1 + i) : Nat)] ++ [V.int ((if dueOf (1 + i) > 2 then 2 else dueOf (1 + i) : Nat) : Int)]))) := fun c' o e => by
        rw [upd_ne (ne_of_none e hfA)]
        exact s16 _ _ (y11 _ _ (s10G _ _ e))
      have zX : (upd G16 fA (.lst ([V.int (dueOf (1 + i) : Nat), V.int (dueOf (1 + i) : Nat)] ++ [V.int ((if dueOf (1 + i) > 2 then 2 else dueOf (1 + i) : Nat) : Int)]))) fA = some (.lst ([(dueOf (1 + i) : Int), (dueOf (1 + i) : Int), ((if dueOf (1 + i) > 2 then 2 else dueOf (1 + i) : Nat) : Int)].map V.int)) := upd_same
      generalize upd G16 fA (.lst ([V.int (dueOf (1 + i) : Nat), V.int (dueOf (1 + i) : Nat)] ++ [V.int ((if dueOf (1 + i) > 2 then 2 else dueOf (1 + i) : Nat) : Int)])) = G17 at sX zX
      refine ⟨_, rfl, _, rfl, _, rfl, _, rfl, _, _, rfl, by show 3 ≤ sizeLine; decide, fun q4 hq4 => ?_⟩
      have emin : (if (2 : Int) < ((dueOf (1 + i) : Nat) : Int) then (2 : Int) else ((dueOf (1 + i) : Nat) : Int)) = ((if dueOf (1 + i) > 2 then 2 else dueOf (1 + i) : Nat) : Int) := by
        split <;> split <;> omega
      have y12 : Same G17 (upd G17 q4 (.lst ([(dueOf (1 + i) : Int), (dueOf (1 + i) : Int), (if (2 : Int) < ((dueOf (1 + i) : Nat) : Int) then (2 : Int) else ((dueOf (1 + i) : Nat) : Int))].map V.int))) := same_new hq4
      have z12 : (upd G17 q4 (.lst ([(dueOf (1 + i) : Int), (dueOf (1 + i) : Int), (if (2 : Int) < ((dueOf (1 + i) : Nat) : Int) then (2 : Int) else ((dueOf (1 + i) : Nat) : Int))].map V.int))) q4 = some (.lst ([(dueOf (1 + i) : Int), (dueOf (1 + i) : Int), ((if dueOf (1 + i) > 2 then 2 else dueOf (1 + i) : Nat) : Int)].map V.int)) := by rw [upd_same, emin]
      have eqv3 : ∀ zs : List Int, PyData.eqv (.list (zs.map PyData.int)) (.list (zs.map PyData.int)) = true := fun zs => by
        rw [PyData.eqv]
        induction zs with
        | nil => rw [List.map_nil, PyData.eqvAll]
        | cons z r ih => rw [List.map_cons, PyData.eqvAll, PyData.eqv, ih]; simp
      refine ⟨_, _, .lst (.of (y12 _ _ zX)) (dp_ints _), .lst (.of z12) (dp_ints _), sh_ints _, sh_ints _, ?_⟩
      rw [eqv3]
      refine ⟨_, rfl, iteT ?_⟩
      have sY := sX.trans y12
      have ec2 : ∀ xs : List Str, cutV (xs.map V.str) none (some (2 : Int)) = (xs.take 2).map V.str := fun xs => by rw [List.map_take]; exact cut_take _ 2
      refine ⟨_, rfl, _, rfl, nA, _, rfl, .of (sY _ _ eN10), fun n5 hn5 => ?_⟩
      rw [ec2]
      have z13 : Same (upd G17 q4 (.lst ([(dueOf (1 + i) : Int), (dueOf (1 + i) : Int), (if (2 : Int) < ((dueOf (1 + i) : Nat) : Int) then (2 : Int) else ((dueOf (1 + i) : Nat) : Int))].map V.int))) (upd (upd G17 q4 (.lst ([(dueOf (1 + i) : Int), (dueOf (1 + i) : Int), (if (2 : Int) < ((dueOf (1 + i) : Nat) : Int) then (2 : Int) else ((dueOf (1 + i) : Nat) : Int))].map V.int))) n5 (.lst (((seven.take (1 + i)).take 2).map V.str))) := same_new hn5
      have e13 : (upd (upd G17 q4 (.lst ([(dueOf (1 + i) : Int), (dueOf (1 + i) : Int), (if (2 : Int) < ((dueOf (1 + i) : Nat) : Int) then (2 : Int) else ((dueOf (1 + i) : Nat) : Int))].map V.int))) n5 (.lst (((seven.take (1 + i)).take 2).map V.str))) n5 = some (.lst (((seven.take (1 + i)).take 2).map V.str)) := upd_same
      have sZ := sY.trans z13
      have r2 : R0 ((seven.take (1 + i)).take 2) := r0.sub (List.take_sublist _ _)
      have ne2 : (seven.take (1 + i)).take 2 ≠ [] := fun z => by have := congrArg List.length z; rw [List.length_take, ln] at this; have this : min 2 (1 + i) = 0 := this; omega
      obtain ⟨cs, a1, a2, a3⟩ := rl10.keep sZ
      refine ⟨_, rfl, _, rfl, D, _, rfl, .of a1, fun q5 hq5 => ?_⟩
      have ec1 : cutV (cs.map V.ref) none (some (1 : Int)) = (cs.take 1).map V.ref := by rw [List.map_take]; exact cut_take _ 1
      rw [ec1]
      refine ⟨n5, q5, (seven.take (1 + i)).take 2, (rowsOf (1 + i)).take 1, 1, rfl, .inr rfl, given_of (same_new hq5 _ _ e13) ⟨cs.take 1, upd_same, by rw [List.length_take, List.length_take, a2], fun j b row e1 e2 => ?_⟩ ne2 r2 b4, fun v4 G18 s18 f4 => ?_⟩
      · rw [List.getElem?_take] at e1 e2
        split at e1
        · rename_i hj1
          rw [if_pos hj1] at e2
          exact same_new hq5 _ _ (a3 j b row e1 e2)
        · cases e1
      · have ev4 := chk_few c4 f4
        subst ev4
        refine ⟨_, rfl, _, _, rfl, rfl, .inr ⟨_, rfl, ?_⟩⟩
        have sall : Same H1 G18 := s1_10.trans (sZ.trans ((same_new hq5).trans s18))
        have kk := k G18 (k1.trans (hs_mono sall)) (st1.keep sall)
        by_cases hm1 : 1 < 1 + i
        · have e1 : decide ((1 : Int) < 1 + ((i : Nat) : Int)) = true := decide_eq_true (by omega)
          rw [if_pos hm1, e1]
          refine ⟨_, _, rfl, rfl, .inl ⟨by decide, by decide⟩, rfl, ?_⟩
          exact kk
        · have e1 : decide ((1 : Int) < 1 + ((i : Nat) : Int)) = false := decide_eq_false (by omega)
          rw [if_neg hm1, e1]
          refine ⟨_, _, rfl, rfl, .inl ⟨by decide, by decide⟩, rfl, ?_⟩
          exact kk
end
end My

set_option Elab.async false
set_option linter.all false
set_option maxRecDepth 100000
set_option maxHeartbeats 4000000
namespace My
open PySem PySem.Spec PyProof.Rows L2
def trD : Tr → PyData
  | .non => .none
  | .nm s => .str s
  | .nd i a b => .tuple [.int (i : Nat), trD a, trD b]
theorem dp_tree {K : PySem.W.Frag} {H : Hp} : ∀ {t : Tr} {v : V}, TrAt H v t → Dp K H v (trD t)
  | .non, v, h => by cases (show v = .non from h); exact .non
  | .nm s, v, h => by cases (show v = .str s from h); exact .str s
  | .nd i a b, v, h => by
    obtain ⟨q, va, vb, rfl, h1, h2, h3⟩ := h
    exact .tup (.of h1) (.cons (.int _) (.cons (dp_tree h2) (.cons (dp_tree h3) .nil)))
def okT : Tr → Prop
  | .non => True
  | .nm s => PyData.strOk s = true
  | .nd _ a b => okT a ∧ okT b
theorem tree_lay : ∀ {t : Tr}, okT t → (trD t).canLay0 = true ∧ (trD t).depth ≤ height t
  | .non, _ => ⟨by unfold trD; rw [PyData.canLay0], by unfold trD; rw [PyData.depth]; exact Nat.zero_le _⟩
  | .nm s, h => ⟨by unfold trD; rw [PyData.canLay0]; exact h, by unfold trD; rw [PyData.depth]; exact Nat.zero_le _⟩
  | .nd i a b, h => by
    obtain ⟨a1, a2⟩ := tree_lay h.1
    obtain ⟨b1, b2⟩ := tree_lay h.2
    unfold trD height
    constructor
    · rw [PyData.canLay0, PyData.canLayAll0, PyData.canLayAll0, PyData.canLayAll0, PyData.canLayAll0, PyData.canLay0, a1, b1]
      rfl
    · rw [PyData.depth, PyData.depthAll, PyData.depthAll, PyData.depthAll, PyData.depthAll, PyData.depth]
      omega
theorem tree_shaped {t : Tr} (h : okT t) (hh : height t ≤ 64) : SeqAt.shaped (trD t) = true := by
  obtain ⟨a, b⟩ := tree_lay h
  unfold SeqAt.shaped
  rw [a, Bool.true_and]
  exact decide_eq_true (by omega)
theorem tree_ok {names : List Str} {most : Int} {signs : List (List Bool)} (hN : ∀ z ∈ names, PyData.strOk z = true) : ∀ {t : Tr} {st : List Int}, Fits names most signs st t → okT t
  | .non, _, _ => trivial
  | .nm s, st, h => hN s (left_mem (most := most) (st := st) (by rw [show left names most st = [s] from h]; exact List.mem_cons_self))
  | .nd i a b, st, h => by
    obtain ⟨sg, _, h1, h2⟩ := h
    exact ⟨tree_ok hN h1, tree_ok hN h2⟩
theorem fits_take {names : List Str} {most : Int} {signs : List (List Bool)} {k : Nat} : ∀ {t : Tr} {st : List Int}, Fits names most (signs.take k) st t → Fits names most signs st t
  | .non, _, h => h
  | .nm _, _, h => h
  | .nd i a b, st, h => by
    obtain ⟨sg, e, h1, h2⟩ := h
    rw [List.getElem?_take] at e
    split at e
    · exact ⟨sg, e, fits_take h1, fits_take h2⟩
    · cases e
theorem tree_ne {names : List Str} {most : Int} {signs : List (List Bool)} (hm : 0 ≤ most) (hn : names ≠ []) : ∀ m, treeOf names most signs m (st0 names.length) ≠ .non := by
  have hl : leafOf (left names most (st0 names.length)) ≠ .non := by
    rw [left_st0 hm]
    cases names with
    | nil => exact absurd rfl hn
    | cons x r => exact fun z => nomatch z
  intro m
  cases m with
  | zero => exact hl
  | succ m =>
    by_cases h : nl most (st0 names.length) < 2
    · rw [tree_small h]; exact hl
    · rw [tree_big h rfl]; exact fun z => nomatch z
theorem tr_ne {H : Hp} {v : V} : ∀ {t : Tr}, t ≠ .non → TrAt H v t → v ≠ .non
  | .non, h, _ => absurd rfl h
  | .nm s, _, e => by rw [show v = .str s from e]; exact fun z => nomatch z
  | .nd i a b, _, e => by
    obtain ⟨q, va, vb, rfl, _⟩ := e
    exact fun z => nomatch z
theorem few_one {names : List Str} {most : Int} {signs : List (List Bool)} {v u : V} (a : FewV names most signs v) (b : FewV names most signs u) : v = u := by
  rcases a with ⟨rfl, n⟩ | ⟨y, m, _, rfl, l⟩
  · rcases b with ⟨rfl, _⟩ | ⟨y, _⟩
    · rfl
    · exact absurd y n
  · rcases b with ⟨_, n⟩ | ⟨_, m', _, rfl, l'⟩
    · exact absurd y n
    · rw [l.one l']
theorem signs_take (names : List Str) (rows : List (List Str)) (k : Nat) : signsOf names (rows.take k) = (signsOf names rows).take k := by
  unfold signsOf
  rw [List.map_take]
theorem rl_cut {H : Hp} {b aA : Addr} {rows : List (List Str)} {bs : List Addr} {k : Nat} (h : H aA = some (.lst (bs.map V.ref))) (l : bs.length = rows.length) (f : ∀ (j : Nat) b row, bs[j]? = some b → rows[j]? = some row → H b = some (.lst (row.map V.str))) (hb : H b = none) :
    RL (upd H b (.lst (cutV (bs.map V.ref) none (some ((k : Nat) : Int))))) b (rows.take k) := by
  rw [cut_take, ← List.map_take]
  refine ⟨bs.take k, upd_same, by rw [List.length_take, List.length_take, l], fun j c row e1 e2 => ?_⟩
  rw [List.getElem?_take] at e1 e2
  split at e1
  · rename_i hj
    rw [if_pos hj] at e2
    exact same_new hb _ _ (f j c row e1 e2)
  · cases e1
def rTupOf (K : PySem.W.Frag) : List V → Hp → VK → Prop := fun xs H Q => ∃ p ys, xs = [.ref p] ∧ ((SqL K H p ys ∧ ∀ l, H l = none → Q (.ref l) (upd H l (.tup ys))) ∨ (SqT K H p ys ∧ Q (.ref p) H))
def spLaw (K : PySem.W.Frag) : Sp := fun vs H Q _ => ∃ a, ∃ ns : List Int, vs = [.ref a] ∧ SqL K H a (ns.map V.int) ∧ ns.length ≤ 63 ∧ ∀ H', Q (.bl true) H'
abbrev nLw : List Str := ["_law_script", "_law_stream", "_law_turn", "_law_lies", "_law_names", "_law_askings", "_law_state", "_law_due", "_law_handed", "_law_told", "_law_row"]
theorem sc_lw : FnScope nLw ["_law_script"] (defScope s_law) := ⟨rfl, rfl, rfl, by decide +kernel, rfl, by decide +kernel, by decide +kernel⟩
section
variable {P : Program} {w : World} {K : PySem.W.Frag} {mg : Str → Option Value} {base : Heap}
theorem fn_law (T : TX K mg) {fd : FuncData} (F : FunD K d_law.name d_law.qual d_law.params d_law.body d_law.scope (d_law.dvs K) (d_law.kws K) (He.fAd K d_law.at_) fd) : FnOk P w K mg base CX0 68 (He.fAd K d_law.at_) fd ["_law_script"] (spLaw K) := by
  obtain ⟨fdK, itsK, FK, bK⟩ := few_kw (P := P) (w := w) (base := base) T
  refine F.ok sc_lw (fun vs H Q E h => ?_) fun cdv A outer s H vs Q E hr h => ?_
  · obtain ⟨_, _, rfl, _⟩ := h
    rfl
  · obtain ⟨a, ns, rfl, hsq, hl, k⟩ := h
    suffices hh : ∃ t, PSs (cxOf CX0 P w K mg base nLw d_law.qual d_law.scope (He.fAd K d_law.at_) cdv A outer s H E).nox d_law.body t ∧ t { nx := fun _ H' => Q .non H', rt := Q } (start nLw [.ref a]) H by
      obtain ⟨t, x, y⟩ := hh
      exact ⟨t, x.nox, y⟩
    have hz : sizeLine = 16777216 := sizeLine_eq
    have hu := hr.units
    refine ⟨_, pss_cons (ps_set (i := 1) sc_lw.nd rfl (Or.inl rfl) (pe_f (ok_start T) hr (by decide) T.g__law_start (by rfl) (pa_cons (pv 0) pa_nil)))
      (pss_cons (ps_if (pt_not (pt_val (pe_f (ok_kn T) hr (by decide) T.g__law_known_right (by rfl) (pa_cons (pv 1) pa_nil)))) (pss_one (ps_ret pe_bl)) pss_nil)
      (pss_cons (ps_for PassesOwn.never rfl (pi_range1 (by rfl) T.f_range (pa_cons pe_int pa_nil)) (pg_name (i := 2) sc_lw.nd rfl (Or.inl rfl))
        (pss_one (ps_for PassesOwn.never rfl (pi_sqB (pe_tup (pa_cons pe_int (pa_cons pe_int pa_nil)))) (pg_name (i := 3) sc_lw.nd rfl (Or.inl rfl))
          (pss_cons (ps_asg (pe_f (ok_su T) hr (by decide) T.g__law_m_suspects (by rfl) (pa_cons (pv 1) (pa_cons (pe_op op_sub pe_int (pe_op op_mul pe_int (pv 3))) pa_nil))) (pg_tup rfl (pgs_cons (pg_name (i := 4) sc_lw.nd rfl (Or.inl rfl)) (pgs_cons (pg_name (i := 5) sc_lw.nd rfl (Or.inl rfl)) pgs_nil))))
          (pss_cons (ps_set (i := 6) sc_lw.nd rfl (Or.inl rfl) (pe_op op_repA (pe_tup (pa_cons pe_int pa_nil)) (pe_callB call_len (by rfl) T.f_len PySem.boot_len (pa_cons (pv 4) pa_nil))))
          (pss_cons (ps_set (i := 7) sc_lw.nd rfl (Or.inl rfl) (pe_f (ok_lf T) hr (by decide) T.g__law_m_fewest (by rfl) (pa_cons (pv 4) (pa_cons (pe_slice sl_list (pv 5) po_none (po_some (pe_op op_sub pe_int (pv 3)))) (pa_cons (pv 3) (pa_cons (pv 6) pa_nil))))))
          (pss_cons (ps_set (i := 8) sc_lw.nd rfl (Or.inl rfl) (pe_f (ok_pick T) hr (by decide) T.g__law_pick (by rfl) (pa_cons (pv 1) (pa_cons (pe_lst (pa_cons (pe_slice sl_list (pv 5) po_none (po_some (pe_op op_sub pe_int (pv 3))))
            (pa_cons (pe_callTy call_tuple_of (by rfl) T.f_tuple b_tuple (pa_cons (pe_lc (own := [("_law_row", 10)]) (g := gName 10) (tt := tYes) (te := tCB (rTupOf K) (tCons (tVar 10) tNil)) rfl sc_lw.nd (pi_sqB (pe_slice sl_list (pv 5) po_none (po_some (pe_op op_sub pe_int (pv 3)))))
              (blkOk_by (N := nLw) (sc := defScope s_law) (by decide +kernel)) (fun _ _ _ _ _ => pg_name (i := 10) sc_lw.nd rfl (Or.inl rfl)) (fun _ _ _ _ _ => pts_nil) (fun _ _ _ _ _ => pe_callTy call_tuple_of (by rfl) T.f_tuple b_tuple (pa_cons (pv 10) pa_nil))) pa_nil)) pa_nil))) pa_nil))))
          (pss_cons (ps_set (i := 9) sc_lw.nd rfl (Or.inl rfl) (pe_f (ok_search T) hr (by decide) T.g_search (by rfl) (pa_cons (pv 4) (pa_cons (pv 8) (pa_cons (pv 3) pa_nil)))))
          (pss_cons (ps_if (pt_not (pt_val (pe_f (ok_same1 T) hr (by decide) T.g__law_same (by rfl) (pa_cons (pe_lst (pa_cons (pe_callN FK (hr.mono (by decide)) (by rfl) T.g_fewest_askings (ok_few2 (P := P) (w := w) (base := base) T).kp bK pass0 (pa_cons (pe_callTy call_tuple_of (by rfl) T.f_tuple b_tuple (pa_cons (pv 4) pa_nil)) (pa_cons (pv 8) pa_nil)) (pk_cons (pv 3) pk_nil)) pa_nil)) (pa_cons (pe_lst (pa_cons (pv 7) pa_nil)) pa_nil))))) (pss_one (ps_ret pe_bl)) pss_nil)
          (pss_cons (ps_if (PW.pt (pw_or (pt_cmpR op_ne (pe_cmpR op_isN (pv 9) pe_non rfl) (pe_cmpR op_isN (pv 7) pe_non rfl) (nomark _)) (pw_or1 (pt_cmpR op_ne (pe_cmpR op_isN (pv 7) pe_non rfl) (pe_cmpR op_notN (pe_f (ok_never T) hr (by decide) T.g_never_parted (by rfl) (pa_cons (pv 4) (pa_cons (pv 8) pa_nil))) pe_non rfl) (nomark _))))) (pss_one (ps_ret pe_bl)) pss_nil)
          (pss_one (ps_if (pt_cmpR op_notN (pv 9) pe_non rfl)
            (pss_cons (ps_if (PW.pt (pw_or (pt_not (pt_val (pe_f (ok_istree T 21) hr (by decide) T.g__law_m_is_tree (by rfl) (pa_cons (pv 4) (pa_cons (pv 5) (pa_cons (pv 3) (pa_cons (pv 6) (pa_cons (pv 9) pa_nil)))))))) (pw_or1 (pt_cmpR op_ne (pe_f (ok_height T 21) hr (by decide) T.g__law_m_height (by rfl) (pa_cons (pv 9) pa_nil)) (pv 7) (nomark _))))) (pss_one (ps_ret pe_bl)) pss_nil)
            (pss_cons (ps_if (pt_not (pt_val (pe_f (ok_told T 21) hr (by decide) T.g__law_is_told (by rfl) (pa_cons (pv 9) pa_nil)))) (pss_one (ps_ret pe_bl)) pss_nil)
            (pss_one (ps_if (pt_cmpR (op_neD hu) (pe_f (ok_search T) hr (by decide) T.g_search (by rfl) (pa_cons (pv 4) (pa_cons (pe_slice sl_list (pv 5) po_none (po_some (pe_op op_sub pe_int (pv 3)))) (pa_cons (pv 3) pa_nil)))) (pv 9) (nomark _)) (pss_one (ps_ret pe_bl)) pss_nil)))) pss_nil))))))))))))
      (pss_one (ps_ret pe_bl)))), ?_⟩
    refine ⟨_, rfl, a, ns, rfl, hsq, by omega, fun p cl G0 k0 stA0 => ?_⟩
    refine ⟨_, rfl, p, cl, 0, rfl, by decide, stA0, fun G1 k1 st1 => ⟨_, rfl, iteF ?_⟩⟩
    have hsN : ∀ {G : Hp} {b : Addr} {o : HO}, hs p cl G b = some o → G b = some o := fun h => (hs_at h).2.2
    have hsNone : ∀ {G : Hp} {b : Addr}, G b = none → hs p cl G b = none := fun {G b} h => by
      cases q : hs p cl G b with
      | none => rfl
      | some o => have := hsN q; rw [h] at this; cases this
    refine ⟨4, rfl, by decide, by decide, for_range (lo := 0) (n := 4) (fun t σ G => ∃ v2 v3 v4 v5 v6 v7 v8 v9, σ = [some (.ref a), some (.ref p), v2, v3, v4, v5, v6, v7, v8, v9, none] ∧ SAt G p cl (1 + 300 * t)) ⟨_, _, _, _, _, _, _, _, rfl, st1⟩ (fun t σ G ht pr => ?_) fun σ G pr => k G⟩
    obtain ⟨v2, v3, v4, v5, v6, v7, v8, v9, rfl, stG⟩ := pr
    refine ⟨by show 2 ≤ sizeLine; decide, fun t0 ht0 => ⟨false, t0, _, rfl, .of upd_same, ?_⟩⟩
    obtain ⟨nt1, nt2⟩ := stG.new ht0
    have et0 : hs p cl (upd G t0 (.tup [.int 0, .int 1])) t0 = some (.tup [.int 0, .int 1]) := hs_of upd_same nt1 nt2
    have stG' := stG.keep (same_new (o := .tup [.int 0, .int 1]) ht0)
    generalize upd G t0 (.tup [.int 0, .int 1]) = Ga at et0 stG'
    refine for_it (walk_sqB (p := false) (xs := [V.int 0, V.int 1])) (fun j σ G => ∃ v3 v4 v5 v6 v7 v8 v9, σ = [some (.ref a), some (.ref p), some (.int (0 + (t : Int))), v3, v4, v5, v6, v7, v8, v9, none] ∧ SAt G p cl (1 + 300 * t + 150 * j) ∧ hs p cl G t0 = some (.tup [.int 0, .int 1]))
      ⟨_, _, _, _, _, _, _, rfl, stG', et0⟩ (fun j σ G _ pr => ?_) (fun j x σ G G' hj pr y => ?_) fun σ G pr => ?_
    · obtain ⟨_, _, _, _, _, _, _, _, _, h⟩ := pr
      exact .of (hsN h)
    · obtain ⟨v3, v4, v5, v6, v7, v8, v9, rfl, st, et⟩ := pr
      obtain ⟨e5, ex⟩ := y
      subst e5
      have hj2 : j < 2 := hj
      have hx : x = .int (j : Nat) := by
        match j, ex with
        | 0, ex => exact (Option.some.inj ex).symm
        | 1, ex => exact (Option.some.inj ex).symm
        | j + 2, ex => exact absurd hj2 (by omega)
      subst hx
      have hm : ((j : Nat) : Int) = 0 ∨ ((j : Nat) : Int) = 1 := by omega
      have e7 : (7 : Int) - 2 * ((j : Nat) : Int) = ((7 - 2 * j : Nat) : Int) := by omega
      have e5 : (5 : Int) - ((j : Nat) : Int) = ((5 - j : Nat) : Int) := by omega
      have cm : CMul 2 ((j : Nat) : Int) := .inl ⟨by decide, by decide⟩
      refine ⟨_, rfl, _, rfl, _, _, rfl, rfl, cm, _, _, rfl, rfl, p, cl, 1 + 300 * t + 150 * j, 7 - 2 * j, by show [V.ref p, V.int ((7 : Int) - 2 * ((j : Nat) : Int))] = _; rw [e7], by omega, by omega, by omega, st, fun q nA aA names rows G2 hq hnA rl ne okn lm l7 okr k2 st2 => ?_⟩
      refine ⟨q, _, rfl, .of (hsN hq), rfl, _, _, rfl, _, _, rfl, rfl, ?_⟩
      refine ⟨by show 1 ≤ sizeLine; decide, fun q0 hq0 => ?_⟩
      have s2 : Same G2 (upd G2 q0 (.tup [.int 0])) := same_new hq0
      have n0 : 0 < names.length := List.length_pos_iff.mpr ne
      refine ⟨_, rfl, _, _, rfl, .inl ⟨_, .of (s2 _ _ (hsN hnA)), rfl⟩, q0, _, [.int 0], rfl, rfl, upd_same, by simp, by rw [List.length_map]; omega, by rw [List.length_map]; omega, by show 1 ≤ 1000; decide, fun sa G3 s3 e3 => ?_⟩
      have s23 : Same G2 G3 := s2.trans s3
      have e3' : G3 sa = some (.tup ((st0 names.length).map V.int)) := by
        rw [e3, List.length_map, Int.toNat_natCast, List.map_replicate]
        simp
      have st3 := st2.keep s23
      obtain ⟨bs, a1, a2, a3⟩ := id rl
      have wfk : ∀ {X : Hp} {su ask : Addr}, Given X su ask names (rows.take (5 - j)) → WF names.length ((j : Nat) : Int) (signsOf names (rows.take (5 - j))) := fun g => g.wf hm
      have okt : okRows (rows.take (5 - j)) := by
        obtain ⟨o1, o2, o3⟩ := okr
        have : 0 < rows.length := List.length_pos_iff.mpr o1
        refine ⟨List.length_pos_iff.mp (by rw [List.length_take]; omega), by rw [List.length_take]; omega, fun row hr => o3 row (List.mem_of_mem_take hr)⟩
      have gv : ∀ {X : Hp} {su ask : Addr} {b c : Bool}, SeqH X b su (names.map V.str) → RowsAt X c ask (rows.take (5 - j)) → Given X su ask names (rows.take (5 - j)) := fun h1 h2 => ⟨⟨_, h1⟩, ⟨_, h2⟩, ne, okn, l7, okt⟩
      have cutR : ∀ {X : Hp} {b : Addr}, Same G2 X → X b = none → RL (upd X b (.lst (cutV (bs.map V.ref) none (some ((5 - j : Nat) : Int))))) b (rows.take (5 - j)) := fun s hb => rl_cut (s _ _ (hsN a1)) a2 (fun i b row e1 e2 => s _ _ (hsN (a3 i b row e1 e2))) hb
      have cutH : ∀ {X : Hp} {b : Addr}, Same G2 X → X b = none → b ≠ p → b ≠ cl → RL (hs p cl (upd X b (.lst (cutV (bs.map V.ref) none (some ((5 - j : Nat) : Int)))))) b (rows.take (5 - j)) := fun s hb n1 n2 => by
        rw [hs_up n1 n2]
        exact rl_cut (hs_mono s _ _ a1) a2 (fun i b row e1 e2 => hs_mono s _ _ (a3 i b row e1 e2)) (hsNone hb)
      refine ⟨_, rfl, _, rfl, _, rfl, _, _, rfl, rfl, _, rfl, aA, _, rfl, .of (s23 _ _ (hsN a1)), fun L0 hL0 => ?_⟩
      rw [e5]
      have rl0 := cutR s23 hL0
      have s4 := same_new (o := .lst (cutV (bs.map V.ref) none (some ((5 - j : Nat) : Int)))) hL0
      generalize upd G3 L0 (.lst (cutV (bs.map V.ref) none (some ((5 - j : Nat) : Int)))) = G4 at rl0 s4
      have s24 := s23.trans s4
      have nm4 : SeqH G4 true nA (names.map V.str) := s24 _ _ (hsN hnA)
      have g4 := gv nm4 rl0.at
      have wf := wfk g4
      refine ⟨_, rfl, _, rfl, nA, L0, sa, names, rows.take (5 - j), ((j : Nat) : Int), rfl, nm4, rl0.at, s4 _ _ e3', wf, fun due G5 s5 fdue => ?_⟩
      have s25 := s24.trans s5
      refine ⟨_, rfl, _, rfl, _, rfl, _, _, rfl, rfl, _, rfl, aA, _, rfl, .of (s25 _ _ (hsN a1)), fun L1 hL1 => ?_⟩
      rw [e5]
      obtain ⟨l1, l2⟩ := (st2.keep s25).new hL1
      have rl1 := cutH s25 hL1 l1 l2
      have s6 := same_new (o := .lst (cutV (bs.map V.ref) none (some ((5 - j : Nat) : Int)))) hL1
      generalize upd G5 L1 (.lst (cutV (bs.map V.ref) none (some ((5 - j : Nat) : Int)))) = G6 at rl1 s6
      have s26 := s25.trans s6
      refine ⟨_, rfl, _, rfl, _, _, rfl, rfl, _, rfl, aA, _, rfl, .of (s26 _ _ (hsN a1)), fun L3 hL3 => ?_⟩
      rw [e5]
      have rl3 := cutR s26 hL3
      have s7 := same_new (o := .lst (cutV (bs.map V.ref) none (some ((5 - j : Nat) : Int)))) hL3
      have eL3 : (upd G6 L3 (.lst (cutV (bs.map V.ref) none (some ((5 - j : Nat) : Int))))) L3 = some (.lst ((bs.take (5 - j)).map V.ref)) := by rw [upd_same, cut_take, List.map_take]
      have ecb : cutV (bs.map V.ref) none (some ((5 - j : Nat) : Int)) = (bs.take (5 - j)).map V.ref := by rw [cut_take, List.map_take]
      rw [ecb] at rl3 s7 eL3 ⊢
      generalize upd G6 L3 (.lst ((bs.take (5 - j)).map V.ref)) = G7 at rl3 s7 eL3
      have s27 := s26.trans s7
      refine ⟨true, L3, _, rfl, .of eL3, fun D hD => lc_rel (walk_sqB (p := true) (xs := (bs.take (5 - j)).map V.ref)) (fun i y H' => ∃ b row, y = .ref b ∧ (rows.take (5 - j))[i]? = some row ∧ H' b = some (.tup (row.map V.str)))
        (by rw [List.length_map, List.length_take]; omega) hD (fun i y A B h k => ?_) (fun A s => .of (s _ _ eL3)) (fun i x A B hi s8 hDs y R kR => ?_) yes_mono (name_mono 10) fun G8 acc s8 hDl hal hacc => ?_⟩
      · obtain ⟨b, row, h1, h2, h3⟩ := h
        exact ⟨b, row, h1, h2, k _ _ h3⟩
      · obtain ⟨e6, ex⟩ := y
        subst e6
        rw [List.getElem?_map] at ex
        obtain ⟨b, eb, rfl⟩ := Option.map_eq_some_iff.mp ex
        obtain ⟨oD, hDs⟩ := hDs
        rw [List.getElem?_take] at eb
        split at eb
        · rename_i hi5
          have hir : i < rows.length := by rw [← a2]; exact (List.getElem?_eq_some_iff.mp eb).1
          have erow : rows[i]? = some rows[i] := List.getElem?_eq_getElem hir
          generalize rows[i] = row at erow
          have hb := (s27.trans s8) _ _ (hsN (a3 i b row eb erow))
          refine ⟨rfl, rfl, _, rfl, b, _, rfl, .inl ⟨.of hb, fun tt htt => kR _ _ ⟨tt, row, rfl, by rw [List.getElem?_take, if_pos hi5]; exact erow, ?_⟩ (same_new htt)⟩⟩
          rw [hid_ne (Ne.symm (ne_of_none hDs htt)), upd_same]
        · cases eb
      · have s28 := s27.trans s8
        rw [List.length_map, List.length_take, a2] at hal
        refine ⟨D, acc, rfl, .inl ⟨.of hDl, fun tt htt => ?_⟩⟩
        have s9 : Same G8 (upd G8 tt (.tup acc)) := same_new htt
        have ett : (upd G8 tt (.tup acc)) tt = some (.tup acc) := upd_same
        generalize upd G8 tt (.tup acc) = G9 at s9 ett
        refine ⟨by show 2 ≤ sizeLine; decide, fun M hM => ?_⟩
        have s10 : Same G9 (upd G9 M (.lst [.ref L1, .ref tt])) := same_new hM
        have s210 := s28.trans (s9.trans s10)
        have st10 := st2.keep s210
        have st9 := st2.keep (s28.trans s9)
        obtain ⟨m1, m2⟩ := st9.new hM
        have eM : hs p cl (upd G9 M (.lst [.ref L1, .ref tt])) M = some (.lst [.ref L1, .ref tt]) := hs_of upd_same m1 m2
        have s610 : Same G6 (upd G9 M (.lst [.ref L1, .ref tt])) := s7.trans (s8.trans (s9.trans s10))
        obtain ⟨_, _, _, _, P1, P2, _, _, _, _, _⟩ := id st10
        have nTup : ∀ {X : Addr} {xs : List V}, (upd G9 M (.lst [.ref L1, .ref tt])) X = some (.tup xs) → hs p cl (upd G9 M (.lst [.ref L1, .ref tt])) X = some (.tup xs) := fun h => hs_of h (ne_of h P1 (fun z => nomatch z)) (ne_of h P2 (fun z => nomatch z))
        have R1 : RowsAt (hs p cl (upd G9 M (.lst [.ref L1, .ref tt]))) true L1 (rows.take (5 - j)) := (rl1.keep (hs_mono s610)).at
        have R2 : RowsAt (hs p cl (upd G9 M (.lst [.ref L1, .ref tt]))) false tt (rows.take (5 - j)) := by
          refine ⟨acc.map fun y => (false, match y with | .ref b => b | _ => 0), ?_, by rw [List.length_map, hal, List.length_take], fun i r row e1 e2 => ?_⟩
          · have ea : (acc.map fun y => ((false, match y with | .ref b => b | _ => 0) : Bool × Addr)).map (fun r => V.ref r.2) = acc := by
              rw [List.map_map]
              refine (List.map_congr_left fun y hy => ?_).trans (List.map_id acc)
              obtain ⟨i, hi⟩ := List.mem_iff_getElem?.mp hy
              obtain ⟨b, row, rfl, _⟩ := hacc i y hi
              rfl
            rw [ea]
            exact nTup (s10 _ _ ett)
          · rw [List.getElem?_map] at e1
            obtain ⟨y, ey, rfl⟩ := Option.map_eq_some_iff.mp e1
            obtain ⟨b, row', rfl, e3', e4⟩ := hacc i y ey
            rw [e3'] at e2
            cases e2
            exact nTup (s10 _ _ (s9 _ _ e4))
        have s3m : Same G3 (upd G9 M (.lst [.ref L1, .ref tt])) := s4.trans (s5.trans (s6.trans s610))
        have esa := nTup (s3m _ _ e3')
        refine ⟨p, cl, 1 + 300 * t + 150 * j + 100, M, [.ref L1, .ref tt], rfl, eM, (fun z => nomatch z), by show 2 < 1000; decide, by omega, st10, fun i x G11 hx k11 st11 => ?_⟩
        obtain ⟨ask, ap, rfl, Rk⟩ : ∃ ask ap, x = .ref ask ∧ RowsAt (hs p cl G11) ap ask (rows.take (5 - j)) := by
          match i, hx with
          | 0, hx => exact ⟨L1, true, (Option.some.inj hx).symm, R1.keep k11⟩
          | 1, hx => exact ⟨tt, false, (Option.some.inj hx).symm, R2.keep k11⟩
          | i + 2, hx => exact absurd (List.getElem?_eq_some_iff.mp hx).1 (by show ¬ i + 2 < 2; omega)
        have K211 := (hs_mono (p := p) (cl := cl) s210).trans k11
        have nm11 : SeqH G11 true nA (names.map V.str) := hsN (K211 _ _ hnA)
        have rl11 : RL G11 aA rows := (rl.keep K211).keep hs_le
        have rk11 : RowsAt G11 ap ask (rows.take (5 - j)) := Rk.keep hs_le
        have sa11 := hsN (k11 _ _ esa)
        have et11 := K211 _ _ (k2 _ _ et)
        have g11 := gv nm11 rk11
        refine ⟨_, rfl, _, rfl, _, rfl, nA, ask, names, rows.take (5 - j), ((j : Nat) : Int), rfl, hm, g11, fun told G12 s12 fnd => ?_⟩
        refine ⟨_, rfl, nA, _, rfl, .inl ⟨.of (s12 _ _ nm11), fun tN htN => ⟨_, rfl, _, rfl, rfl, rfl, ?_⟩⟩⟩
        have s13 : Same G11 (upd G12 tN (.tup (names.map V.str))) := s12.trans (same_new htN)
        have etN : (upd G12 tN (.tup (names.map V.str))) tN = some (.tup (names.map V.str)) := upd_same
        have s1213 : Same G12 (upd G12 tN (.tup (names.map V.str))) := same_new htN
        generalize upd G12 tN (.tup (names.map V.str)) = G13 at s13 etN s1213
        refine ⟨tN, ask, names, rows.take (5 - j), ((j : Nat) : Int), rfl, hm, gv (b := false) etN (rk11.keep s13), fun v G14 s14 fv => ?_⟩
        have ev := few_one fv fdue
        subst ev
        refine ⟨by show 1 ≤ sizeLine; decide, fun y1 hy1 => ?_⟩
        have s15 : Same G14 (upd G14 y1 (.lst [v])) := same_new hy1
        have ey1 : (upd G14 y1 (.lst [v])) y1 = some (.lst [v]) := upd_same
        generalize upd G14 y1 (.lst [v]) = G15 at s15 ey1
        refine ⟨_, rfl, by show 1 ≤ sizeLine; decide, fun y2 hy2 => ?_⟩
        have s16 : Same G15 (upd G15 y2 (.lst [v])) := same_new hy2
        have ey2 : (upd G15 y2 (.lst [v])) y2 = some (.lst [v]) := upd_same
        generalize upd G15 y2 (.lst [v]) = G16 at s16 ey2
        have hv : v = .non ∨ ∃ i, v = .int i := by
          rcases fv with ⟨e, _⟩ | ⟨_, m, _, e, _⟩
          · exact .inl e
          · exact .inr ⟨_, e⟩
        refine ⟨y1, y2, v, rfl, s16 _ _ ey1, ey2, hv, fun G17 s17 => ⟨_, rfl, iteF ?_⟩⟩
        have s1217 := s1213.trans (s14.trans (s15.trans (s16.trans s17)))
        have s1117 := s12.trans s1217
        have next : ∀ G : Hp, Same G11 G → SAt G p cl (1 + 300 * t + 150 * (j + 1)) ∧ hs p cl G t0 = some (.tup [.int 0, .int 1]) := fun G s => ⟨(st11.keep s).le (by omega), hs_mono s _ _ et11⟩
        rcases fnd with ⟨rfl, hnp⟩ | ⟨hp, mm, h21, hl, htr⟩
        · -- nothing parts some two
          have hv0 : v = .non := by
            rcases fdue with ⟨e, _⟩ | ⟨hp, _⟩
            · exact e
            · exact absurd hp hnp
          subst hv0
          refine ⟨_, rfl, rfl, _, rfl, rfl, rfl, _, rfl, iteF ?_⟩
          refine ⟨_, rfl, rfl, _, rfl, _, rfl, nA, ask, names, rows.take (5 - j), rfl, gv (nm11.keep s1117) (rk11.keep s1117), fun nv G18 s18 hnv => ?_⟩
          rcases hnv with ⟨_, hp⟩ | ⟨⟨q2, rfl⟩, _⟩
          · exact absurd hp hnp
          · refine ⟨rfl, rfl, _, rfl, iteF ?_⟩
            refine ⟨_, rfl, rfl, _, rfl, iteF ?_⟩
            obtain ⟨z1, z2⟩ := next G18 (s1117.trans s18)
            exact ⟨_, _, _, _, _, _, _, rfl, z1, z2⟩
        · have hvm : v = .int (mm : Nat) := by
            rcases fdue with ⟨_, hnp⟩ | ⟨_, m, _, e, l⟩
            · exact absurd hp hnp
            · rw [e, l.one hl]
          subst hvm
          have tn : told ≠ .non := tr_ne (tree_ne wf.nn ne mm) htr
          have d1 : decide (told = .non) = false := decide_eq_false tn
          have d2 : decide (V.int (mm : Nat) = V.non) = false := decide_eq_false (fun z => nomatch z)
          refine ⟨_, rfl, rfl, _, rfl, rfl, rfl, _, rfl, ?_⟩
          rw [d1, d2]
          refine iteF ?_
          refine ⟨_, rfl, rfl, _, rfl, _, rfl, nA, ask, names, rows.take (5 - j), rfl, gv (nm11.keep s1117) (rk11.keep s1117), fun nv G18 s18 hnv => ?_⟩
          rcases hnv with ⟨rfl, _⟩ | ⟨_, hnp⟩
          · refine ⟨rfl, rfl, _, rfl, ?_⟩
            rw [d2]
            refine iteF ?_
            refine ⟨_, rfl, rfl, _, rfl, ?_⟩
            rw [d1]
            have s1118 := s1117.trans s18
            have htr18 := htr.keep (s1217.trans s18)
            have fit : Fits names ((j : Nat) : Int) (signsOf names (rows.take (5 - j))) (st0 names.length) (treeOf names ((j : Nat) : Int) (signsOf names (rows.take (5 - j))) mm (st0 names.length)) := fits_treeOf wf.rl mm _ List.length_replicate hl.yes
            have fitF := fit
            rw [signs_take] at fitF
            have hh21 : height (treeOf names ((j : Nat) : Int) (signsOf names (rows.take (5 - j))) mm (st0 names.length)) ≤ 21 := Nat.le_trans (height_treeOf _ _) h21
            have hhm := height_least wf.rl hl
            have okt := tree_ok g11.ok fit
            have shp := tree_shaped okt (by omega)
            have fit2 : Fits names ((j : Nat) : Int) (signsOf names rows) (clampL ((j : Nat) : Int) (st0 names.length)) (treeOf names ((j : Nat) : Int) (signsOf names (rows.take (5 - j))) mm (st0 names.length)) := by
              rw [clamp_st0 wf.nn, signs_take]
              exact fits_take fitF
            generalize htq : treeOf names ((j : Nat) : Int) (signsOf names (rows.take (5 - j))) mm (st0 names.length) = tr at htr18 hh21 hhm okt shp fit2
            refine iteT ⟨_, rfl, _, rfl, _, rfl, _, rfl, _, rfl, tr, hh21, nA, aA, sa, told, names, rows, ((j : Nat) : Int), st0 names.length, rfl, nm11.keep s1118, by omega, (rl11.keep s1118).at, okr.2.1, s1118 _ _ sa11, List.length_replicate, g11.ok, htr18, fit2, fun G19 s19 => ⟨_, rfl, iteF ?_⟩⟩
            refine ⟨_, rfl, tr, told, hh21, rfl, htr18.keep s19, fun G20 s20 => ⟨_, rfl, rfl, _, rfl, ?_⟩⟩
            rw [hhm, decide_eq_true rfl]
            refine iteF ?_
            refine ⟨_, rfl, tr, told, hh21, rfl, (htr18.keep s19).keep s20, fun G21 s21 => ⟨_, rfl, iteF ?_⟩⟩
            have s1821 := s19.trans (s20.trans s21)
            have s1121 := s1118.trans s1821
            obtain ⟨bs', x1, x2, x3⟩ := rl11.keep s1121
            refine ⟨_, rfl, _, rfl, _, rfl, _, _, rfl, rfl, _, rfl, aA, _, rfl, .of x1, fun L9 hL9 => ?_⟩
            rw [e5]
            have rl9 := rl_cut (k := 5 - j) x1 x2 x3 hL9
            have s22 := same_new (o := .lst (cutV (bs'.map V.ref) none (some ((5 - j : Nat) : Int)))) hL9
            generalize upd G21 L9 (.lst (cutV (bs'.map V.ref) none (some ((5 - j : Nat) : Int)))) = G22 at rl9 s22
            refine ⟨_, rfl, nA, L9, names, rows.take (5 - j), ((j : Nat) : Int), rfl, hm, gv (nm11.keep (s1121.trans s22)) rl9.at, fun told2 G23 s23' fnd2 => ?_⟩
            rcases fnd2 with ⟨_, hnp⟩ | ⟨_, mm2, _, hl2, htr2⟩
            · exact absurd hp hnp
            · have em := hl2.one hl
              subst em
              rw [htq] at htr2
              refine ⟨_, rfl, trD tr, trD tr, dp_tree htr2, dp_tree (htr18.keep (s1821.trans (s22.trans s23'))), shp, shp, _, rfl, ?_⟩
              rw [SeqAt.eqv_refl _ (tree_lay okt).1]
              refine iteF ?_
              obtain ⟨z1, z2⟩ := next G23 (s1121.trans (s22.trans s23'))
              exact ⟨_, _, _, _, _, _, _, rfl, z1, z2⟩
          · exact absurd hp hnp
    · obtain ⟨v3, v4, v5, v6, v7, v8, v9, rfl, st, et⟩ := pr
      exact ⟨_, _, _, _, _, _, _, _, rfl, st.le (by show 1 + 300 * t + 150 * 2 ≤ 1 + 300 * (t + 1); omega)⟩
end
end My

set_option Elab.async false
set_option linter.all false
set_option maxRecDepth 100000
set_option maxHeartbeats 0
open PySem PySem.W PySem.Calls PyProof.Rows
theorem PySem.Challenge.cw_patchlots_k78_whole_searches_holds : PySem.Challenge.rw_patchlots_k78_whole_searches.Holds := by
  w_on; o_law
  refine HandSHeadRun.head_any (r := OpenLaw.row PySem.Challenge.rw_patchlots_k78_whole_searches) (q := view (OpenLaw.row PySem.Challenge.rw_patchlots_k78_whole_searches).prog [39]) (H := My.hk) (ob := My.ob) (M := 3000) (loose := My.loose2) (d := HandSHeadRun.topDef (OpenLaw.row PySem.Challenge.rw_patchlots_k78_whole_searches).prog 39) (kwd := []) My.ob_eq
    (by kernel_rfl) (fun s => by kernel_rfl) My.run (by kernel_rfl) (by kernel_rfl) (by kernel_rfl) (by rfl) (by first | assumption | decide +kernel) (by decide +kernel) ⟨rfl, rfl, rfl, rfl, rfl, by decide +kernel⟩ ?hw ?hc
  case hw => w_witness2
  case hc =>
    refine L2.walk_ofE (l := PySem.Challenge.rw_patchlots_k78_whole_searches) (n := 63) (k := 68) (x := "_law_script") (CX := L2.CX0) rfl (by decide) (by kernel_rfl) ⟨rfl, by decide, by decide⟩ ?F (fun _ _ _ _ z => z)
    intro w mg fa h Y G hmg0
    obtain ⟨K, KX, c⟩ := Y
    have hmg : mg ("law" : PySem.Str) = some (.ref fa) := by
      have e : (HandSHeadRun.topDef (OpenLaw.row PySem.Challenge.rw_patchlots_k78_whole_searches).prog 39).name = ("law" : PySem.Str) := by kernel_rfl
      rw [← e]
      exact hmg0
    have T : My.TX K mg := ⟨⟨h, KX, G⟩, c⟩
    have e := hmg.symm.trans T.g_law
    cases e
    obtain ⟨fd, F⟩ := T.fd_d_law
    have b := L2.FunD.bindsA (ps := ["_law_script"]) F fun _ _ _ _ _ _ us hl => match us, hl with | [_], _ => rfl
    exact ⟨K, fd, My.spLaw K, KX, fun s v => b s [v] rfl, fun H a ns hl _ hS => ⟨a, ns, rfl, hS, hl, fun _ => rfl⟩, fun base _ _ => My.fn_law T F⟩

