import PyProof.Rows.All
import Wide.All
import OpenK.AllK
import Wide.FinOn
import HandS.Dict
import KE.KeyNested
import HandS.ForMost
import HandS.IsInst
import HandS.Conv
import HandS.Zip
import HandS.Flow
import HandS.Nested
import HandS.TupAny
import HandS.Style
import HandS.TupSets
import HandS.Deep
import HandS.SortInts
import HandS.TryOnly
import HandS.Sort
import HandS.CallRecv
import KE.KDictList
import KE.DataMinMax
import OpenK.KOps
import HandS.Hot
import HandS.ExcCtx
import HandS.ExcIs
import HandS.WordsExc
import HandS.RaiseMore
import HandS.SlotsOwn
import HandS.EndOwn
import HandS.ExcInit
import HandS.ExcField
import KE.KExcIs
import PySem.Challenge.RW_warmcold_k15_who_is_refused
set_option Elab.async false
set_option linter.all false
set_option maxRecDepth 100000
set_option maxHeartbeats 4000000
/-! a dict whose keys are tuples of a pair and two whole numbers, and whose values are bools. -/
namespace Wm
open PySem L2
abbrev Spot := (Int × Int) × Int × Int
def spotK (k : Spot) : NestedKey := .tup [.tup [.num k.1.1, .num k.1.2], .num k.2.1, .num k.2.2]
theorem spotK_inj {j k : Spot} (h : spotK j = spotK k) : j = k := by
  obtain ⟨⟨a, b⟩, c, d⟩ := j
  obtain ⟨⟨a', b'⟩, c', d'⟩ := k
  unfold spotK at h
  injection h with h
  injection h with h1 h
  injection h1 with h1
  injection h1 with h2 h1
  injection h2 with h2
  injection h1 with h1 _
  injection h1 with h1
  injection h with h3 h
  injection h3 with h3
  injection h with h4 _
  injection h4 with h4
  dsimp only at h1 h2 h3 h4
  rw [h1, h2, h3, h4]
def spotH (k : Spot) : Int := reduceHash (Builtin.Tuple.tupleHashOf [reduceHash (Builtin.Tuple.tupleHashOf [hashInt k.1.1, hashInt k.1.2]), hashInt k.2.1, hashInt k.2.2])
theorem spotH_eq (w : World) (k : Spot) : (spotK k).hash w = spotH k := rfl
abbrev NX := List (Spot × Addr × Bool)
def nX (xs : NX) : List (NestedKey × Addr × Value) := xs.map fun x => (spotK x.1, x.2.1, .bool x.2.2)
/-- what is true of the dict's one object -/
def φN (d : Addr) (xs : NX) (h : Heap) : Prop := xs.length ≤ sizeLine ∧ (d == sysModules) = false ∧ (xs.map (·.1)).Nodup ∧
  ∃ o es ep, h.get? d = some o ∧ o.ExactDict ∧ o.data = .dict es ep ∧ es.toList = xs.map fun x => (⟨spotH x.1, .ref x.2.1, .bool x.2.2⟩ : DictEntry)
def SpotAt (H : Hp) (k : Spot) (b : Addr) : Prop := ∃ c, H b = some (.tup [.ref c, .int k.2.1, .int k.2.2]) ∧ H c = some (.tup [.int k.1.1, .int k.1.2])
theorem SpotAt.mono {H H' : Hp} {k : Spot} {b : Addr} (s : ∀ a xs, H a = some (.tup xs) → H' a = some (.tup xs)) (h : SpotAt H k b) : SpotAt H' k b := let ⟨c, h1, h2⟩ := h; ⟨c, s _ _ h1, s _ _ h2⟩
def atN (xs : NX) (k : Spot) : Option Bool := (xs.find? fun x => decide (x.1 = k)).map (·.2.2)
def putN (xs : NX) (k : Spot) (b : Addr) (v : Bool) : NX := if (xs.any fun x => decide (x.1 = k)) = true then xs.map (fun x => if x.1 = k then (x.1, x.2.1, v) else x) else xs ++ [(k, b, v)]
theorem atN_nX (k : Spot) : ∀ xs : NX, (atKey (nX xs) (spotK k)).map (·.2) = (atN xs k).map Value.bool
  | [] => rfl
  | x :: xs => by
    have ih := atN_nX k xs
    by_cases e : x.1 = k
    · simp [atKey, atN, nX, List.find?_cons, e]
    · have e' : ¬ spotK x.1 = spotK k := fun z => e (spotK_inj z)
      simpa [atKey, atN, nX, List.find?_cons, e, e'] using ih
theorem any_nX (k : Spot) : ∀ xs : NX, (atKey (nX xs) (spotK k)).isSome = xs.any fun x => decide (x.1 = k)
  | [] => rfl
  | x :: xs => by
    have ih := any_nX k xs
    by_cases e : x.1 = k
    · simp [atKey, nX, List.find?_cons, e]
    · have e' : ¬ spotK x.1 = spotK k := fun z => e (spotK_inj z)
      simpa [atKey, nX, List.find?_cons, e, e'] using ih
theorem storedH_nX (xs : NX) (k : Spot) (b : Addr) (v : Bool) : storedH (nX xs) (spotK k) b (.bool v) = nX (putN xs k b v) := by
  unfold storedH putN
  rw [any_nX]
  split
  · unfold nX
    rw [List.map_map, List.map_map]
    refine List.map_congr_left fun x _ => ?_
    show putAt (spotK k) (Value.bool v) (spotK x.1, x.2.1, Value.bool x.2.2) = _
    by_cases e : x.1 = k
    · have e' : spotK x.1 = spotK k := by rw [e]
      simp [putAt, e, e']
    · have e' : ¬ spotK x.1 = spotK k := fun z => e (spotK_inj z)
      simp [putAt, e, e']
  · simp [nX]
theorem length_putN (xs : NX) (k : Spot) (b : Addr) (v : Bool) : (putN xs k b v).length ≤ xs.length + 1 := by
  unfold putN
  split
  · rw [List.length_map]; omega
  · rw [List.length_append, List.length_cons, List.length_nil]; omega
theorem putN_mem {xs : NX} {k : Spot} {b : Addr} {v : Bool} {x : Spot × Addr × Bool} (h : x ∈ putN xs k b v) : (∃ y ∈ xs, x.1 = y.1 ∧ x.2.1 = y.2.1) ∨ x = (k, b, v) := by
  unfold putN at h
  split at h
  · obtain ⟨y, hy, rfl⟩ := List.mem_map.mp h
    refine .inl ⟨y, hy, ?_⟩
    split <;> exact ⟨rfl, rfl⟩
  · rcases List.mem_append.mp h with z | z
    · exact .inl ⟨x, z, rfl, rfl⟩
    · exact .inr (List.mem_singleton.mp z)
section
variable {P : Program} {w : World} {H : Hp} {h : Heap} {a b d : Addr} {k : Spot} {xs : NX}
theorem SpotAt.is (ok : HOk P w H h) (s : SpotAt H k b) : (nestedKind P w).is h (spotK k) b := by
  obtain ⟨c, h1, h2⟩ := s
  obtain ⟨_, its, r, o, g1, g2, n, g3⟩ := (show ObjOk P w H h b _ from ok b _ h1)
  obtain ⟨_, its2, r2, o2, g4, g5, n2, g6⟩ := (show ObjOk P w H h c _ from ok c _ h2)
  refine ⟨?_, by simp [spotK, NestedKey.depth, NestedKey.depthAll]⟩
  have r' : Vals [.ref c, .int k.2.1, .int k.2.2] its := r
  have r2' : Vals [.int k.1.1, .int k.1.2] its2 := r2
  cases r' with
  | cons e1 r' =>
    cases r' with
    | cons e2 r' =>
      cases r' with
      | cons e3 r' =>
        cases r'
        cases r2' with
        | cons e4 r2' =>
          cases r2' with
          | cons e5 r2' =>
            cases r2'
            obtain ⟨t2, q2⟩ := (show ∃ t, _ = Value.int _ t from e2)
            obtain ⟨t3, q3⟩ := (show ∃ t, _ = Value.int _ t from e3)
            obtain ⟨t4, q4⟩ := (show ∃ t, _ = Value.int _ t from e4)
            obtain ⟨t5, q5⟩ := (show ∃ t, _ = Value.int _ t from e5)
            have q1 := (show _ = Value.ref c from e1)
            subst q1 q2 q3 q4 q5
            refine .tup g1 g2 g3 ?_
            refine .cons (.tup g4 g5 g6 ?_) (.cons (.int _ _) (.cons (.int _ _) .nil))
            exact .cons (.int _ _) (.cons (.int _ _) .nil)
/-- the dict, as the model's rules ask for it -/
theorem φN_of (ok : HOk P w H h) (p : φN d xs h) (hk : ∀ x ∈ xs, SpotAt H x.1 x.2.1) : h.DictOfH (nestedKind P w) d (nX xs) := by
  obtain ⟨_, _, nd, o, es, ep, h1, h2, h3, h4⟩ := p
  refine ⟨o, es, ep, h1, h2, h3, ?_, fun x hx => ?_, ?_⟩
  · rw [h4]
    unfold nX
    rw [List.map_map]
    rfl
  · obtain ⟨y, hy, rfl⟩ := List.mem_map.mp hx
    exact (hk y hy).is ok
  · unfold nX
    rw [List.map_map]
    have e : (xs.map ((fun x : NestedKey × Addr × Value => x.1) ∘ fun x => (spotK x.1, x.2.1, Value.bool x.2.2))) = (xs.map (·.1)).map spotK := by rw [List.map_map]; rfl
    rw [e]
    exact List.Pairwise.map spotK (fun a b hab z => hab (spotK_inj z)) nd
theorem φN_at {x : NX} (p : ∃ xs', h.DictOfH (nestedKind P w) d xs' ∧ xs' = nX x) (hl : x.length ≤ sizeLine) (hd : (d == sysModules) = false) : φN d x h := by
  obtain ⟨_, ⟨o, es, ep, h1, h2, h3, h4, _, h5⟩, rfl⟩ := p
  refine ⟨hl, hd, ?_, o, es, ep, h1, h2, h3, ?_⟩
  · unfold nX at h5
    rw [List.map_map] at h5
    have e : (x.map ((fun x : NestedKey × Addr × Value => x.1) ∘ fun x => (spotK x.1, x.2.1, Value.bool x.2.2))) = (x.map (·.1)).map spotK := by rw [List.map_map]; rfl
    rw [e] at h5
    exact List.Pairwise.of_map spotK (fun a b hab z => hab (by rw [z])) h5
  · rw [h4]
    unfold nX
    rw [List.map_map]
    rfl
theorem φN_ext (p : φN d xs h) : ObjOk P w H h d (.ext (φN d xs)) := by
  refine ⟨p, ?_, fun h1 h2 q k => ?_⟩
  · obtain ⟨_, _, _, o, _, _, h1, _⟩ := p
    exact ⟨o, h1⟩
  · obtain ⟨z, y, nd, o, es, ep, g1, g⟩ := q
    exact ⟨z, y, nd, o, es, ep, k o g1, g⟩
end
/-- what the dict at a holds at the key y -/
def NGet (H : Hp) (a : Addr) (y : V) (r : Option Bool) : Prop := ∃ xs k b, H a = some (.ext (φN a xs)) ∧ (∀ x ∈ xs, SpotAt H x.1 x.2.1) ∧ y = .ref b ∧ SpotAt H k b ∧ r = atN xs k
/-- the heap behind a[y] = v -/
def NPut (H : Hp) (a : Addr) (y v : V) (H' : Hp) : Prop := ∃ xs k b c, H a = some (.ext (φN a xs)) ∧ (∀ x ∈ xs, SpotAt H x.1 x.2.1) ∧ y = .ref b ∧ SpotAt H k b ∧ v = .bl c ∧ xs.length < sizeLine ∧ H' = upd H a (.ext (φN a (putN xs k b c)))
section
variable {X : Cx} {pins : List (Addr × Obj)} {σ : St} {H : Hp} {s : Shared} {a : Addr} {y v : V} {u r : Value} {o : Option Bool} {A : Around} {E : Value → Shared → Prop}
theorem n_getItem {c : Bool} {Q : Value → Shared → Prop} (hu : A.units + 9 < cLine) (I : Inv X pins σ H s) (g : NGet H a y (some c)) (ry : RelV y u) (h : ∀ w' s', Inv X pins σ H s' → RelV (.bl c) w' → Q w' s') :
    wpAny (model X.prog X.w) A (getItem (.ref a) u) Q E s := by
  obtain ⟨xs, k, b, e, hk, ey, eb, l⟩ := g
  subst ey
  cases (show u = Value.ref b from ry)
  have p : φN a xs s.heap := (show ObjOk X.prog X.w H s.heap a _ from I.hok a _ e).1
  have hp := atN_nX k xs
  rw [← l] at hp
  obtain ⟨q, hq, hq2⟩ := Option.map_eq_some_iff.mp hp
  refine wpAny_getItem_heap (knd := nestedKind X.prog X.w) (show A.in1.units + 8 < cLine by show A.units + 1 + 8 < cLine; omega) (eb.is I.hok) (φN_of I.hok p hk) hq ?_
  rw [hq2]
  exact h _ _ (I.tok _) rfl
theorem n_notIn {Q : Value → Shared → Prop} (hu : A.units + 9 < cLine) (I : Inv X pins σ H s) (g : NGet H a y o) (ry : RelV y u) (h : ∀ s', Inv X pins σ H s' → Q (.bool (!o.isSome)) s') :
    wpAny (model X.prog X.w) A (compareOp .NotIn u (.ref a)) Q E s := by
  obtain ⟨xs, k, b, e, hk, ey, eb, l⟩ := g
  subst ey
  cases (show u = Value.ref b from ry)
  have p : φN a xs s.heap := (show ObjOk X.prog X.w H s.heap a _ from I.hok a _ e).1
  refine PyProof.Rows.wpAny_notIn_heap (knd := nestedKind X.prog X.w) (show A.in1.units + 8 < cLine by show A.units + 1 + 8 < cLine; omega) (eb.is I.hok) p.2.1 (φN_of I.hok p hk) ?_
  have q : (atKey (nX xs) (spotK k)).isSome = o.isSome := by
    have := congrArg Option.isSome (atN_nX k xs)
    rw [Option.isSome_map, Option.isSome_map] at this
    rw [this, l]
  rw [q]
  exact h _ (I.tok _)
theorem n_setItem {H' : Hp} {Q : Unit → Shared → Prop} (hu : A.units + 9 < cLine) (I : Inv X pins σ H s) (g : NPut H a y v H') (ry : RelV y u) (rv : RelV v r) (h : ∀ s', Inv X pins σ H' s' → Q () s') :
    wpAny (model X.prog X.w) A (setItem (.ref a) u r) Q E s := by
  obtain ⟨xs, k, b, c, e, hk, ey, eb, ev, l, eH⟩ := g
  subst ey eH ev
  cases (show u = Value.ref b from ry)
  cases (show r = Value.bool c from rv)
  have p : φN a xs s.heap := (show ObjOk X.prog X.w H s.heap a _ from I.hok a _ e).1
  have hl : (putN xs k b c).length ≤ sizeLine := by have := length_putN xs k b c; omega
  refine wpAny_setItem_heap (hsz := by unfold nX; rw [List.length_map]; omega) (knd := nestedKind X.prog X.w) (show A.in1.units + 8 < cLine by show A.units + 1 + 8 < cLine; omega) (eb.is I.hok) (φN_of I.hok p hk) fun h' dd' hs => h _ ?_
  have pn : φN a (putN xs k b c) h' := φN_at ⟨_, dd', storedH_nX xs k b c⟩ hl p.2.1
  refine d_write I (by rw [e]; exact True.intro) hs ?_ (φN_ext pn)
  obtain ⟨_, _, _, q, _, _, hq, _⟩ := pn
  exact ⟨q, hq⟩
end
theorem nget_typeIs {X : Cx} {pins : List (Addr × Obj)} {σ : St} {H : Hp} {s : Shared} {a : Addr} {y : V} {o : Option Bool} (I : Inv X pins σ H s) (g : NGet H a y o) : s.TypeIs (.ref a) "dict" := by
  obtain ⟨xs, k, b, e, hk, _⟩ := g
  have p : φN a xs s.heap := (show ObjOk X.prog X.w H s.heap a _ from I.hok a _ e).1
  exact (φN_of I.hok p hk).typeIs
/-- d[y], y not in d, d[y] = v, {} -/
def tNGet (td ty : TE) : TE := fun σ H Q => td σ H fun x H1 => ty σ H1 fun y H2 => ∃ a v, x = .ref a ∧ NGet H2 a y (some v) ∧ Q (.bl v) H2
def tNNotIn (ty td : TE) : TE := fun σ H Q => ty σ H fun y H1 => td σ H1 fun x H2 => ∃ a o, x = .ref a ∧ NGet H2 a y o ∧ Q (.bl (!o.isSome)) H2
def sNPut (td ty tv : TE) : TS := fun D σ H => tv σ H fun v H1 => td σ H1 fun x H2 => ty σ H2 fun y H3 => ∃ a H4, x = .ref a ∧ NPut H3 a y v H4 ∧ D.nx σ H4
def tDNewN : TE := fun _ H Q => ∀ p, H p = none → Q (.ref p) (upd H p (.ext (φN p [])))
section
variable {X : Cx} {o i e value : Expr} {pos pos' tpos : Pos} {td ty tv : TE}
theorem pe_nget (hu : X.A.units + 9 < cLine) (ho : PE X o td) (hi : PE X i ty) (hs : NoSl i) : PE X (.Subscript o i pos) (tNGet td ty) := by
  refine ⟨fun pins s σ H Q I h => ?_⟩
  refine subD_of PySem.F.slot_dict_getitem.lookup hs (thn (ho.run pins s σ H _ I h) fun u s1 ⟨x, H1, I1, rx, q1⟩ => thn (hi.run pins s1 σ H1 _ I1 q1) fun iv s2 ⟨y, H2, I2, ry, a, v, ex, g, q2⟩ => ?_)
  subst ex
  obtain rfl : u = Value.ref a := rx
  exact ⟨nget_typeIs I2 g, n_getItem hu I2 g ry fun w' s3 I3 rw' => ⟨.bl v, H2, I3, rw', q2⟩⟩
theorem pc_nnotin (hu : X.A.units + 9 < cLine) (hi : PE X i ty) (ho : PE X o td) : PC X .NotIn i o (tNNotIn ty td) := by
  refine ⟨fun pins s σ H Q I h => ?_⟩
  refine thn (hi.run pins s σ H _ I h) fun iv s1 ⟨y, H1, I1, ry, q1⟩ => thn (ho.run pins s1 σ H1 _ I1 q1) fun u s2 ⟨x, H2, I2, rx, a, ov, ex, g, q2⟩ => ?_
  subst ex
  obtain rfl : u = Value.ref a := rx
  exact n_notIn hu I2 g ry fun s3 I3 => ⟨.bl (!ov.isSome), H2, I3, rfl, q2⟩
theorem ps_nput (hu : X.A.units + 9 < cLine) (ho : PE X o td) (hi : PE X i ty) (hv : PE X value tv) (hs : swapsWith value (some (.Subscript o i pos')) pos.line X.env = pure false) :
    PS X (.Assign [.Subscript o i pos'] value pos) (sNPut td ty tv) := by
  refine ⟨fun pins s σ H D I h => ?_⟩
  refine wpAny_Assign_Subscript (thn (hv.run pins s σ H _ I h) fun r s1 ⟨v, H1, I1, rv, q1⟩ => thn (ho.run pins s1 σ H1 _ I1 q1) fun u s2 ⟨x, H2, I2, rx, q2⟩ => thn (hi.run pins s2 σ H2 _ I2 q2) fun iv s3 ⟨y, H3, I3, ry, a, H4, ex, g, q3⟩ => ?_) hs
  subst ex
  obtain rfl : u = Value.ref a := rx
  exact n_setItem hu I3 g ry rv fun s4 I4 => ⟨σ, H4, I4, q3⟩
theorem pe_dnewN : PE X (.Dict [] [] pos) tDNewN := ⟨fun pins s σ H Q I h => by
  have pn : φN s.heap.objs.size [] (s.heap.push { cls := .type "dict", data := .dict #[] }) :=
    ⟨Nat.zero_le _, beq_eq_false_iff_ne.mpr (Ne.symm (Nat.ne_of_lt I.big)), List.nodup_nil, _, #[], 0, Heap.get?_push_size _ rfl, ⟨rfl, rfl, rfl⟩, rfl, rfl⟩
  exact wpAny_Dict_empty ⟨.ref s.heap.objs.size, _, I.laid (a := s.heap.objs.size) (o := .ext (φN s.heap.objs.size [])) (t' := s.toks) (fun _ _ q => Heap.get?_push_of_some _ q) (Nat.le_refl _) (φN_ext pn), rfl, h _ (I.hok.fresh (Nat.le_refl _))⟩⟩
end
end Wm

/-! the data layer: what stands in the slots and in the objects told as data; expressions and statements over that. -/
namespace Wm
open PySem L2
/-! ### heaps with some objects out of sight -/
def hid (L : List Addr) (H : Hp) : Hp := fun a => if a ∈ L then none else H a
theorem hid_in {L : List Addr} {H : Hp} {a : Addr} (h : a ∈ L) : hid L H a = none := by unfold hid; rw [if_pos h]
theorem hid_out {L : List Addr} {H : Hp} {a : Addr} (h : a ∉ L) : hid L H a = H a := by unfold hid; rw [if_neg h]
theorem hid_some {L : List Addr} {H : Hp} {a : Addr} {o : HO} (h : hid L H a = some o) : a ∉ L ∧ H a = some o := by
  by_cases e : a ∈ L
  · rw [hid_in e] at h; cases h
  · rw [hid_out e] at h; exact ⟨e, h⟩
theorem hid_le (L : List Addr) (H : Hp) : Same (hid L H) H := fun _ _ h => (hid_some h).2
theorem hid_nil (H : Hp) : hid [] H = H := by funext a; exact hid_out (by simp)
theorem hid_mono {L : List Addr} {H H' : Hp} (s : Same H H') : Same (hid L H) (hid L H') := fun a o h => by
  obtain ⟨n, e⟩ := hid_some h
  rw [hid_out n]; exact s a o e
theorem hid_sub {L L' : List Addr} {H : Hp} (s : ∀ a, a ∈ L → a ∈ L') : Same (hid L' H) (hid L H) := fun a o h => by
  obtain ⟨n, e⟩ := hid_some h
  rw [hid_out fun z => n (s a z)]; exact e
theorem hid_upd {L : List Addr} {H : Hp} {p : Addr} {o : HO} (h : p ∈ L) : hid L (upd H p o) = hid L H := by
  funext a
  by_cases e : a ∈ L
  · rw [hid_in e, hid_in e]
  · rw [hid_out e, hid_out e, upd_ne (fun z : a = p => e (by rw [z]; exact h))]
theorem same_new {H : Hp} {p : Addr} {o : HO} (h : H p = none) : Same H (upd H p o) := fun b x e => by
  rw [upd_ne (ne_of_none e h)]; exact e
/-- all but what stands at the places L stays -/
theorem same_hid_upd {H : Hp} {p : Addr} {o : HO} {L : List Addr} (h : p ∈ L) : Same (hid L H) (upd H p o) := fun b x e => by
  obtain ⟨n, e⟩ := hid_some e
  rw [upd_ne (fun z : b = p => n (by rw [z]; exact h))]; exact e
/-! ### data -/
/-- the law's own script, as data: a list that may be one of the module's own objects -/
abbrev dScr (ns : List Int) : PyData := .dict (ns.map fun i => (.int i, .none))
mutual
/-- v, in the heap H, is the data d: lists stand tracked or locked, tuples also written -/
inductive Dp (K : PySem.W.Frag) (H : Hp) : V → PyData → Prop
  | non : Dp K H .non .none
  | bl (b : Bool) : Dp K H (.bl b) (.bool b)
  | int (i : Int) : Dp K H (.int i) (.int i)
  | str (x : Str) : Dp K H (.str x) (.str x)
  | lst {a : Addr} {xs : List V} {ds : List PyData} : Rd H a (.lst xs) → DpAll K H xs ds → Dp K H (.ref a) (.list ds)
  | tup {a : Addr} {xs : List V} {ds : List PyData} : H a = some (.tup xs) → DpAll K H xs ds → Dp K H (.ref a) (.tuple ds)
  | scr {a : Addr} {ns : List Int} : SqL K H a (ns.map V.int) → Dp K H (.ref a) (dScr ns)
inductive DpAll (K : PySem.W.Frag) (H : Hp) : List V → List PyData → Prop
  | nil : DpAll K H [] []
  | cons {v : V} {vs : List V} {d : PyData} {ds : List PyData} : Dp K H v d → DpAll K H vs ds → DpAll K H (v :: vs) (d :: ds)
end
theorem Rd.mono {H H' : Hp} {a : Addr} {o : HO} (s : Same H H') (h : Rd H a o) : Rd H' a o := h.imp (s _ _) fun ⟨o, h⟩ => ⟨o, s _ _ h⟩
section
variable {K : PySem.W.Frag} {H H' : Hp}
mutual
theorem Dp.lo : ∀ {v : V} {d : PyData}, Dp K H v d → d.canLay0 = true → L2.Dp K H v d
  | _, _, .non, _ => .non
  | _, _, .bl b, _ => .bl b
  | _, _, .int i, _ => .int i
  | _, _, .str x, _ => .str x
  | _, _, .lst h a, c => .lst (.inl h) (DpAll.lo a (by simpa [PyData.canLay0] using c))
  | _, _, .tup h a, c => .tup (.inl (.inl h)) (DpAll.lo a (by simpa [PyData.canLay0] using c))
  | _, _, .scr h, c => by simp [PyData.canLay0] at c
theorem DpAll.lo : ∀ {vs : List V} {ds : List PyData}, DpAll K H vs ds → PyData.canLayAll0 ds = true → L2.DpAll K H vs ds
  | _, _, .nil, _ => .nil
  | _, _, .cons h a, c => by
    simp only [PyData.canLayAll0, Bool.and_eq_true] at c
    exact .cons (Dp.lo h c.1) (DpAll.lo a c.2)
end
mutual
theorem Dp.mono (s : Same H H') : ∀ {v : V} {d : PyData}, Dp K H v d → Dp K H' v d
  | _, _, .non => .non
  | _, _, .bl b => .bl b
  | _, _, .int i => .int i
  | _, _, .str x => .str x
  | _, _, .lst h a => .lst (Rd.mono s h) (DpAll.mono s a)
  | _, _, .tup h a => .tup (s _ _ h) (DpAll.mono s a)
  | _, _, .scr h => .scr (s.seq h)
theorem DpAll.mono (s : Same H H') : ∀ {vs : List V} {ds : List PyData}, DpAll K H vs ds → DpAll K H' vs ds
  | _, _, .nil => .nil
  | _, _, .cons h a => .cons (Dp.mono s h) (DpAll.mono s a)
end
theorem DpAll.length : ∀ {vs : List V} {ds : List PyData}, DpAll K H vs ds → vs.length = ds.length
  | _, _, .nil => rfl
  | _, _, .cons _ a => by rw [List.length_cons, List.length_cons, DpAll.length a]
theorem DpAll.append : ∀ {vs us : List V} {ds es : List PyData}, DpAll K H vs ds → DpAll K H us es → DpAll K H (vs ++ us) (ds ++ es)
  | _, _, _, _, .nil, b => b
  | _, _, _, _, .cons h a, b => .cons h (DpAll.append a b)
theorem DpAll.get : ∀ {vs : List V} {ds : List PyData} {i : Nat} {d : PyData}, DpAll K H vs ds → ds[i]? = some d → ∃ v, vs[i]? = some v ∧ Dp K H v d
  | _, _, _, _, .nil, e => by simp at e
  | _, _, 0, _, .cons h _, e => by simp at e; subst e; exact ⟨_, rfl, h⟩
  | _, _, i + 1, d, .cons _ a, e => by
    obtain ⟨v, h1, h2⟩ := DpAll.get (i := i) (d := d) a (by simpa using e)
    exact ⟨v, by simpa using h1, h2⟩
theorem DpAll.getV : ∀ {vs : List V} {ds : List PyData} {i : Nat} {v : V}, DpAll K H vs ds → vs[i]? = some v → ∃ d, ds[i]? = some d ∧ Dp K H v d
  | _, _, _, _, .nil, e => by simp at e
  | _, _, 0, _, .cons h _, e => by simp at e; subst e; exact ⟨_, rfl, h⟩
  | _, _, i + 1, d, .cons _ a, e => by
    obtain ⟨v, h1, h2⟩ := DpAll.getV (i := i) (v := d) a (by simpa using e)
    exact ⟨v, by simpa using h1, h2⟩
theorem DpAll.take : ∀ {vs : List V} {ds : List PyData} (n : Nat), DpAll K H vs ds → DpAll K H (vs.take n) (ds.take n)
  | _, _, 0, _ => .nil
  | _, _, _ + 1, .nil => .nil
  | _, _, n + 1, .cons h a => .cons h (DpAll.take n a)
theorem DpAll.drop : ∀ {vs : List V} {ds : List PyData} (n : Nat), DpAll K H vs ds → DpAll K H (vs.drop n) (ds.drop n)
  | _, _, 0, r => r
  | _, _, _ + 1, .nil => .nil
  | _, _, n + 1, .cons _ a => DpAll.drop n a
theorem DpAll.set {v : V} {d : PyData} (h : Dp K H v d) : ∀ {vs : List V} {ds : List PyData} (i : Nat), DpAll K H vs ds → DpAll K H (vs.set i v) (ds.set i d)
  | _, _, _, .nil => .nil
  | _, _, 0, .cons _ a => .cons h a
  | _, _, i + 1, .cons q a => .cons q (DpAll.set h i a)
theorem DpAll.reverse {vs : List V} {ds : List PyData} (h : DpAll K H vs ds) : DpAll K H vs.reverse ds.reverse := by
  induction vs generalizing ds with
  | nil => cases h; exact .nil
  | cons v vs ih =>
    cases h with
    | cons h a => rw [List.reverse_cons, List.reverse_cons]; exact DpAll.append (ih a) (.cons h .nil)
theorem dp_ints : ∀ {ns : List Int} {vs : List V}, DpAll K H vs (ns.map PyData.int) → vs = ns.map V.int
  | [], _, h => by cases h; rfl
  | n :: ns, _, h => by
    cases h with
    | cons h a => cases h; rw [List.map_cons, dp_ints a]
theorem dp_strs : ∀ {ns : List Str} {vs : List V}, DpAll K H vs (ns.map PyData.str) → vs = ns.map V.str
  | [], _, h => by cases h; rfl
  | n :: ns, _, h => by
    cases h with
    | cons h a => cases h; rw [List.map_cons, dp_strs a]
theorem dp_bls : ∀ {ns : List Bool} {vs : List V}, DpAll K H vs (ns.map PyData.bool) → vs = ns.map V.bl
  | [], _, h => by cases h; rfl
  | n :: ns, _, h => by
    cases h with
    | cons h a => cases h; rw [List.map_cons, dp_bls a]
theorem ints_dp : ∀ {ns : List Int}, DpAll K H (ns.map V.int) (ns.map PyData.int)
  | [] => .nil
  | _ :: _ => .cons (.int _) ints_dp
theorem strs_dp : ∀ {ns : List Str}, DpAll K H (ns.map V.str) (ns.map PyData.str)
  | [] => .nil
  | _ :: _ => .cons (.str _) strs_dp
theorem bls_dp : ∀ {ns : List Bool}, DpAll K H (ns.map V.bl) (ns.map PyData.bool)
  | [] => .nil
  | _ :: _ => .cons (.bl _) bls_dp
end
/-! ### slots, objects, states -/
/-- what is told of a slot: nothing, its very value, its data -/
inductive Sl where
  | un | loc (v : V) | dat (d : PyData) | pr (φ : V → Hp → Prop)
/-- what is told of an object that changes: a list of data, an instance, a dict -/
inductive MO where
  | lst (ds : List PyData) | ins (C : Addr) (fs : List (Str × Sl)) | dK (kvs : List (Key × PyData)) | dT (kvs : List (List Key × PyData)) | dP (Φ : List (List Key × PyData) → Prop) | dN (kvs : List (Spot × PyData)) | dQ (Φ : List (Spot × PyData) → Prop) | tab (nm : Nat → Nat → Str)
abbrev Ms := List (Addr × MO)
abbrev ad (M : Ms) : List Addr := M.map (·.1)
def SlOk (K : PySem.W.Frag) (H : Hp) (v : V) : Sl → Prop
  | .un => True
  | .loc w => v = w
  | .dat d => Dp K H v d
  | .pr φ => ∀ H', Same H H' → φ v H'
def SlO (K : PySem.W.Frag) (H : Hp) (o : Option V) (s : Sl) : Prop := s = .un ∨ ∃ v, o = some v ∧ SlOk K H v s
/-- the entries of a dict with spots as keys, told as data -/
abbrev NP (H0 : Hp) : NX → List (Spot × PyData) → Prop := Paired fun x f => x.1 = f.1 ∧ f.2 = .bool x.2.2 ∧ SpotAt H0 x.1 x.2.1
/-- H0 is what the data may lie in -/
def MOk (K : PySem.W.Frag) (H0 H : Hp) (p : Addr) : MO → Prop
  | .lst ds => ∃ vs, H p = some (.lst vs) ∧ DpAll K H0 vs ds
  | .ins C fs => ∃ dx gs, H p = some (.ins C dx gs) ∧ Paired (fun (g : Str × V) (f : Str × Sl) => g.1 = f.1 ∧ SlOk K H0 g.2 f.2) gs fs
  | .dK kvs => ∃ ks, H p = some (.dK ks) ∧ Paired (fun (g : Key × V) (f : Key × PyData) => g.1 = f.1 ∧ Dp K H0 g.2 f.2) ks kvs
  | .dT kvs => ∃ ks, H p = some (.dT ks) ∧ Paired (fun (g : List Key × V) (f : List Key × PyData) => g.1 = f.1 ∧ Dp K H0 g.2 f.2) ks kvs
  | .dP Φ => ∃ ks kvs, Φ kvs ∧ H p = some (.dT ks) ∧ Paired (fun (g : List Key × V) (f : List Key × PyData) => g.1 = f.1 ∧ Dp K H0 g.2 f.2) ks kvs
  | .dN kvs => ∃ xs, H p = some (.ext (φN p xs)) ∧ NP H0 xs kvs
  | .dQ Φ => ∃ xs kvs, Φ kvs ∧ H p = some (.ext (φN p xs)) ∧ NP H0 xs kvs
  | .tab nm => ∃ ps : Array Value, H p = some (.tbl ps) ∧ TriplesOk ps.toList ∧ ∀ pos cv, codeAmong pos ps.toList = some cv → ∃ c, cv = .ref c ∧ H0 c = some (LamX.CodeO c (nm pos.line pos.col))
/-- the state: F what stood ahead and stays, L what is out of sight besides the changing objects M -/
structure Ok (K : PySem.W.Frag) (F : Hp) (L : List Addr) (σ : L2.St) (H : Hp) (ρ : List Sl) (M : Ms) : Prop where
  sl : Paired (SlO K (hid (L ++ ad M) H)) σ ρ
  ob : ∀ x ∈ M, MOk K (hid (L ++ ad M) H) H x.1 x.2
  nd : (ad M).Nodup
  fr : Same F H
  fn : ∀ p ∈ ad M, F p = none
  lv : ∀ p ∈ L, H p ≠ none
section
variable {K : PySem.W.Frag} {F H H' H0 H1 : Hp} {L : List Addr} {σ : L2.St} {ρ : List Sl} {M M' : Ms}
theorem SlOk.mono {v : V} {s : Sl} (e : Same H H') (h : SlOk K H v s) : SlOk K H' v s := by
  cases s with
  | un => trivial
  | loc w => exact h
  | dat d => exact Dp.mono e h
  | pr φ => exact fun H2 s2 => h H2 (e.trans s2)
theorem SlO.mono {v : Option V} {s : Sl} (e : Same H H') (h : SlO K H v s) : SlO K H' v s := h.imp id fun ⟨v, q, r⟩ => ⟨v, q, r.mono e⟩
theorem MOk.mono {p : Addr} {o : MO} (e0 : Same H0 H1) (e : H' p = H p) (h : MOk K H0 H p o) : MOk K H1 H' p o := by
  cases o with
  | lst ds => obtain ⟨vs, h1, h2⟩ := h; exact ⟨vs, e.trans h1, DpAll.mono e0 h2⟩
  | ins C fs => obtain ⟨dx, gs, h1, h2⟩ := h; exact ⟨dx, gs, e.trans h1, Paired.mapP h2 fun _ _ q => ⟨q.1, q.2.mono e0⟩⟩
  | dK kvs => obtain ⟨ks, h1, h2⟩ := h; exact ⟨ks, e.trans h1, Paired.mapP h2 fun _ _ q => ⟨q.1, Dp.mono e0 q.2⟩⟩
  | dT kvs => obtain ⟨ks, h1, h2⟩ := h; exact ⟨ks, e.trans h1, Paired.mapP h2 fun _ _ q => ⟨q.1, Dp.mono e0 q.2⟩⟩
  | dP Φ => obtain ⟨ks, kvs, h0, h1, h2⟩ := h; exact ⟨ks, kvs, h0, e.trans h1, Paired.mapP h2 fun _ _ q => ⟨q.1, Dp.mono e0 q.2⟩⟩
  | dN kvs => obtain ⟨xs, h1, h2⟩ := h; exact ⟨xs, e.trans h1, Paired.mapP h2 fun _ _ q => ⟨q.1, q.2.1, q.2.2.mono fun _ _ z => e0 _ _ z⟩⟩
  | dQ Φ => obtain ⟨xs, kvs, h0, h1, h2⟩ := h; exact ⟨xs, kvs, h0, e.trans h1, Paired.mapP h2 fun _ _ q => ⟨q.1, q.2.1, q.2.2.mono fun _ _ z => e0 _ _ z⟩⟩
  | tab nm => obtain ⟨ps, h1, h2, h3⟩ := h; exact ⟨ps, e.trans h1, h2, fun pos cv z => let ⟨c, e1, e2⟩ := h3 pos cv z; ⟨c, e1, e0 _ _ e2⟩⟩
theorem MOk.there {p : Addr} {o : MO} (h : MOk K H0 H p o) : ∃ x, H p = some x := by
  cases o with
  | lst ds => obtain ⟨vs, h1, _⟩ := h; exact ⟨_, h1⟩
  | ins C fs => obtain ⟨dx, gs, h1, _⟩ := h; exact ⟨_, h1⟩
  | dK kvs => obtain ⟨ks, h1, _⟩ := h; exact ⟨_, h1⟩
  | dT kvs => obtain ⟨ks, h1, _⟩ := h; exact ⟨_, h1⟩
  | dP Φ => obtain ⟨ks, kvs, _, h1, _⟩ := h; exact ⟨_, h1⟩
  | dN kvs => obtain ⟨xs, h1, _⟩ := h; exact ⟨_, h1⟩
  | dQ Φ => obtain ⟨xs, kvs, _, h1, _⟩ := h; exact ⟨_, h1⟩
  | tab nm => obtain ⟨ps, h1, _⟩ := h; exact ⟨_, h1⟩
theorem Ok.there (o : Ok K F L σ H ρ M) {p : Addr} (h : p ∈ L ++ ad M) : H p ≠ none := by
  rcases List.mem_append.mp h with h | h
  · exact o.lv p h
  · obtain ⟨x, hx, rfl⟩ := List.mem_map.mp h
    obtain ⟨y, e⟩ := (o.ob x hx).there
    rw [e]; exact fun z => nomatch z
theorem Ok.mono (o : Ok K F L σ H ρ M) (s : Same H H') : Ok K F L σ H' ρ M where
  sl := Paired.mapP o.sl fun _ _ q => q.mono (hid_mono s)
  ob := fun x hx => by
    obtain ⟨y, e⟩ := (o.ob x hx).there
    exact (o.ob x hx).mono (hid_mono s) ((s _ _ e).trans e.symm)
  nd := o.nd
  fr := o.fr.trans s
  fn := o.fn
  lv := fun p hp z => by
    cases e : H p with
    | none => exact o.lv p hp e
    | some y => rw [s _ _ e] at z; cases z
theorem Ok.new (o : Ok K F L σ H ρ M) {p : Addr} {x : HO} (h : H p = none) : Ok K F L σ (upd H p x) ρ M := o.mono (same_new h)
theorem Ok.fresh (o : Ok K F L σ H ρ M) {p : Addr} (h : H p = none) : p ∉ L ++ ad M := fun z => o.there z h
theorem paired_get {α β : Type} {G : α → β → Prop} : ∀ {xs : List α} {ys : List β} {i : Nat} {y : β}, Paired G xs ys → ys[i]? = some y → ∃ x, xs[i]? = some x ∧ G x y
  | _, _, _, _, .nil, e => by simp at e
  | _, _, 0, _, .cons r _, e => by simp at e; subst e; exact ⟨_, rfl, r⟩
  | _, _, i + 1, y, .cons _ t, e => by
    obtain ⟨u, h1, h2⟩ := paired_get (i := i) (y := y) t (by simpa using e)
    exact ⟨u, by simpa using h1, h2⟩
theorem paired_set {α β : Type} {G : α → β → Prop} {x : α} {y : β} (h : G x y) : ∀ {xs : List α} {ys : List β} (i : Nat), Paired G xs ys → Paired G (xs.set i x) (ys.set i y)
  | _, _, _, .nil => .nil
  | _, _, 0, .cons _ t => .cons h t
  | _, _, i + 1, .cons q t => .cons q (paired_set h i t)
theorem Ok.get (o : Ok K F L σ H ρ M) {i : Nat} {s : Sl} (h : ρ[i]? = some s) (n : s ≠ .un) : ∃ v, σ[i]? = some (some v) ∧ SlOk K (hid (L ++ ad M) H) v s := by
  obtain ⟨x, h1, h2⟩ := paired_get o.sl h
  rcases h2 with h2 | ⟨v, rfl, h2⟩
  · exact absurd h2 n
  · exact ⟨v, h1, h2⟩
theorem Ok.set (o : Ok K F L σ H ρ M) {i : Nat} {s : Sl} {v : V} (h : SlOk K (hid (L ++ ad M) H) v s) : Ok K F L (σ.set i (some v)) H (ρ.set i s) M :=
  { o with sl := paired_set (.inr ⟨v, rfl, h⟩) i o.sl }
/-- less is told -/
inductive Wk : List Sl → List Sl → Prop
  | nil : Wk [] []
  | same {s : Sl} {a b : List Sl} : Wk a b → Wk (s :: a) (s :: b)
  | un {s : Sl} {a b : List Sl} : Wk a b → Wk (s :: a) (.un :: b)
theorem wk_ok {G : Hp} : ∀ {σ : L2.St} {ρ ρ' : List Sl}, Wk ρ ρ' → Paired (SlO K G) σ ρ → Paired (SlO K G) σ ρ'
  | _, _, _, .nil, h => h
  | _, _, _, .same w, .cons r t => .cons r (wk_ok w t)
  | _, _, _, .un w, .cons _ t => .cons (.inl rfl) (wk_ok w t)
theorem Ok.weak {ρ' : List Sl} (o : Ok K F L σ H ρ M) (w : Wk ρ ρ') : Ok K F L σ H ρ' M := { o with sl := wk_ok w o.sl }
/-- a new object is told -/
theorem Ok.add (o : Ok K F L σ H ρ M) {p : Addr} {x : MO} (hs : Paired (SlO K (hid (p :: (L ++ ad M)) H)) σ ρ) (hm : ∀ y ∈ M, MOk K (hid (p :: (L ++ ad M)) H) H y.1 y.2) (hp : p ∉ ad M) (hf : F p = none) (hx : MOk K (hid (p :: (L ++ ad M)) H) H p x) :
    Ok K F L σ H ρ (M ++ [(p, x)]) := by
  have sub : ∀ a, a ∈ L ++ ad (M ++ [(p, x)]) → a ∈ p :: (L ++ ad M) := fun a ha => by
    simp only [ad, List.map_append, List.map_cons, List.map_nil, List.mem_append, List.mem_cons, List.not_mem_nil, or_false] at ha ⊢
    rcases ha with h | h | h
    · exact .inr (.inl h)
    · exact .inr (.inr h)
    · exact .inl h
  refine ⟨Paired.mapP hs fun _ _ q => q.mono (hid_sub sub), fun y hy => ?_, ?_, o.fr, fun q hq => ?_, o.lv⟩
  · rcases List.mem_append.mp hy with hy | hy
    · exact (hm y hy).mono (hid_sub sub) rfl
    · have e : y = (p, x) := by simpa using hy
      subst e
      exact hx.mono (hid_sub sub) rfl
  · simp only [ad, List.map_append, List.map_cons, List.map_nil]
    refine List.nodup_append.mpr ⟨o.nd, by simp, fun a ha b hb e => ?_⟩
    have e2 : b = p := by simpa using hb
    subst e2; subst e; exact hp ha
  · simp only [ad, List.map_append, List.map_cons, List.map_nil, List.mem_append, List.mem_singleton] at hq
    rcases hq with hq | hq
    · exact o.fn q hq
    · rw [hq]; exact hf
/-- the state ahead of a new object at p, that object out of sight -/
theorem Ok.hide (o : Ok K F L σ H ρ M) {p : Addr} (h : H p = none) (s : Same (hid (L ++ ad M) H) (hid (L ++ ad M) H1)) : Paired (SlO K (hid (p :: (L ++ ad M)) H1)) σ ρ :=
  Paired.mapP o.sl fun _ _ q => q.mono fun a x e => by
    have e1 := s a x e
    obtain ⟨n1, e2⟩ := hid_some e1
    obtain ⟨_, e3⟩ := hid_some e
    rw [hid_out]
    · exact e2
    · rw [List.mem_cons]; rintro (z | z)
      · rw [z, h] at e3; cases e3
      · exact n1 z
/-- the object at p changes -/
theorem Ok.change (o : Ok K F L σ H ρ M) {j : Nat} {p : Addr} {x y : MO} (hj : M[j]? = some (p, x)) (s : Same (hid [p] H) H') (hy : MOk K (hid (L ++ ad M) H') H' p y) (hd : ∀ a, a ∈ L → a ≠ p → H' a ≠ none) : Ok K F L σ H' ρ (M.set j (p, y)) := by
  have hp : p ∈ ad M := List.mem_map.mpr ⟨_, List.mem_of_getElem? hj, rfl⟩
  have ea : ad (M.set j (p, y)) = ad M := by
    apply List.ext_getElem? ; intro i
    simp only [ad, List.getElem?_map, List.getElem?_set]
    by_cases e : j = i
    · subst e
      have hl : j < M.length := (List.getElem?_eq_some_iff.mp hj).1
      rw [if_pos rfl, if_pos hl, hj] <;> rfl
    · rw [if_neg e]
  have sub : Same (hid (L ++ ad M) H) (hid (L ++ ad M) H') := fun a z e => by
    obtain ⟨n, e2⟩ := hid_some e
    rw [hid_out n]
    refine s a z ?_
    rw [hid_out]; · exact e2
    · intro q
      have q2 : a = p := by simpa using q
      subst q2; exact n (List.mem_append_right _ hp)
  refine ⟨?_, fun z hz => ?_, ea ▸ o.nd, fun a z e => ?_, fun q hq => o.fn q (ea ▸ hq), fun a ha => ?_⟩
  · rw [ea]; exact Paired.mapP o.sl fun _ _ q => q.mono sub
  · rw [ea]
    obtain ⟨i, hi⟩ := List.mem_iff_getElem?.mp hz
    rw [List.getElem?_set] at hi
    by_cases e : j = i
    · rw [if_pos e] at hi
      split at hi
      · cases hi; exact hy
      · cases hi
    · rw [if_neg e] at hi
      have hzm : z ∈ M := List.mem_of_getElem? hi
      have ne : z.1 ≠ p := fun q => by
        have h1 : (ad M)[i]? = some p := by simp only [ad, List.getElem?_map, hi, Option.map_some, q]
        have h2 : (ad M)[j]? = some p := by simp only [ad, List.getElem?_map, hj, Option.map_some]
        exact e (((List.getElem?_inj (List.getElem?_eq_some_iff.mp h2).1 o.nd).mp (h2.trans h1.symm)))
      obtain ⟨x', e'⟩ := (o.ob z hzm).there
      refine (o.ob z hzm).mono sub ?_
      rw [e']; exact s _ _ (by rw [hid_out (by simpa using ne)]; exact e')
  · refine s a z ?_
    rw [hid_out]
    · exact o.fr a z e
    · intro q
      have q2 : a = p := by simpa using q
      subst q2; rw [o.fn _ hp] at e; cases e
  · by_cases e : a = p
    · subst e
      obtain ⟨x', e'⟩ := hy.there
      rw [e']; exact fun z => nomatch z
    · exact hd a ha e
end
end Wm

namespace Wm
open PySem L2
section
variable {K : PySem.W.Frag} {F F' H H' H0 H1 : Hp} {L : List Addr} {σ : L2.St} {ρ ρ' : List Sl} {M M' M1 M2 M3 : Ms}
theorem same_vis {X : List Addr} (s : Same (hid (ad M) H) H') (h : ∀ a, a ∈ ad M → a ∈ X) : Same (hid X H) (hid X H') := fun a x e => by
  obtain ⟨n, e2⟩ := hid_some e
  rw [hid_out n]
  exact s a x (by rw [hid_out (fun z => n (h a z))]; exact e2)
theorem same_visL (s : Same (hid (ad M) H) H') : Same (hid (L ++ ad M) H) (hid (L ++ ad M) H') := same_vis s fun _ z => List.mem_append_right _ z
theorem same_lay {X : List Addr} {p : Addr} {x : HO} (h : H p = none) : Same (hid X H) (hid (p :: X) (upd H p x)) := fun a z e => by
  obtain ⟨n, e2⟩ := hid_some e
  have np : a ≠ p := ne_of_none e2 h
  rw [hid_out (by rw [List.mem_cons]; rintro (q | q); exact np q; exact n q), upd_ne np]; exact e2
theorem Ok.lay (o : Ok K F L σ H ρ M) {p : Addr} {x : HO} (h : H p = none) : Ok K F (p :: L) σ (upd H p x) ρ M where
  sl := Paired.mapP o.sl fun _ _ q => q.mono (same_lay h)
  ob := fun y hy => by
    obtain ⟨z, e⟩ := (o.ob y hy).there
    exact (o.ob y hy).mono (same_lay h) (upd_ne (ne_of_none e h))
  nd := o.nd
  fr := o.fr.trans (same_new h)
  fn := o.fn
  lv := fun q hq z => by
    by_cases e : q = p
    · rw [e, upd_same] at z; cases z
    · rw [upd_ne e] at z
      rcases List.mem_cons.mp hq with hq | hq
      · exact e hq
      · exact o.lv q hq z
theorem Ok.lift {p : Addr} (o : Ok K F (p :: L) σ H ρ M) : Ok K F L σ H ρ M where
  sl := Paired.mapP o.sl fun _ _ q => q.mono (hid_sub fun _ z => List.mem_cons_of_mem _ z)
  ob := fun y hy => (o.ob y hy).mono (hid_sub fun _ z => List.mem_cons_of_mem _ z) rfl
  nd := o.nd
  fr := o.fr
  fn := o.fn
  lv := fun q hq => o.lv q (List.mem_cons_of_mem _ hq)
/-- what is out of sight, of L, and not of the frame changes -/
theorem Ok.updL {p : Addr} {x : HO} (o : Ok K F L σ H ρ M) (hp : p ∈ L) (hf : F p = none) (hm : p ∉ ad M) : Ok K F L σ (upd H p x) ρ M where
  sl := by rw [hid_upd (List.mem_append_left _ hp)]; exact o.sl
  ob := fun y hy => by
    rw [hid_upd (List.mem_append_left _ hp)]
    exact (o.ob y hy).mono (fun _ _ z => z) (upd_ne fun z => hm (by rw [← z]; exact List.mem_map.mpr ⟨y, hy, rfl⟩))
  nd := o.nd
  fr := fun a z e => by rw [upd_ne (ne_of_none e hf)]; exact o.fr a z e
  fn := o.fn
  lv := fun q hq z => by
    by_cases e : q = p
    · rw [e, upd_same] at z; cases z
    · rw [upd_ne e] at z; exact o.lv q hq z
theorem Ok.unfr (o : Ok K F' L σ H ρ M) (s : Same F F') : Ok K F L σ H ρ M :=
  { o with fr := s.trans o.fr, fn := fun p hp => s.free (o.fn p hp) }
theorem Ok.fr_self (o : Ok K F L σ H ρ M) : Ok K (hid (ad M) H) L σ H ρ M ∧ Same F (hid (ad M) H) :=
  ⟨{ o with fr := hid_le _ _, fn := fun p hp => hid_in hp }, fun a x e => by
    rw [hid_out fun z => by rw [o.fn a z] at e; cases e]; exact o.fr a x e⟩
/-! ### expressions -/
def Ev (K : PySem.W.Frag) (te : TE) (ρ : List Sl) (M : Ms) (s : Sl) (M' : Ms) : Prop := ∀ F L σ H, Ok K F L σ H ρ M → ∀ Q : VK, (∀ v H1, Ok K F L σ H1 ρ M' → ad M' = ad M → Same (hid (ad M) H) H1 → SlOk K (hid (L ++ ad M) H1) v s → Q v H1) → te σ H Q
def EvT (K : PySem.W.Frag) (tt : TT) (ρ : List Sl) (M : Ms) (b : Bool) (M' : Ms) : Prop := ∀ F L σ H, Ok K F L σ H ρ M → ∀ Q : Bool → Hp → Prop, (∀ H1, Ok K F L σ H1 ρ M' → ad M' = ad M → Same (hid (ad M) H) H1 → Q b H1) → tt σ H Q
def EvA (K : PySem.W.Frag) (ta : TA) (ρ : List Sl) (M : Ms) (ss : List Sl) (M' : Ms) : Prop := ∀ F L σ H, Ok K F L σ H ρ M → ∀ Q : List V → Hp → Prop, (∀ vs H1, Ok K F L σ H1 ρ M' → ad M' = ad M → Same (hid (ad M) H) H1 → Paired (SlOk K (hid (L ++ ad M) H1)) vs ss → Q vs H1) → ta σ H Q
/-- a new list -/
def EvN (K : PySem.W.Frag) (te : TE) (ρ : List Sl) (M : Ms) (ds : List PyData) (M' : Ms) : Prop := ∀ F L σ H, Ok K F L σ H ρ M → ∀ Q : VK, (∀ p vs H1, H p = none → Ok K F (p :: L) σ H1 ρ M' → ad M' = ad M → Same (hid (ad M) H) H1 → H1 p = some (.lst vs) → DpAll K (hid (p :: (L ++ ad M)) H1) vs ds → Q (.ref p) H1) → te σ H Q
theorem mem_ad_of {Q : Addr → Prop} (o : Ok K F L σ H ρ M) {p : Addr} (h : H p = none) : p ∉ ad M := fun z => o.fresh h (List.mem_append_right _ z)
variable {te ta tb tc : TE} {tt tu : TT} {tr : TA} {s s1 s2 : Sl} {ss : List Sl} {d d1 d2 : PyData} {ds es : List PyData}
theorem EvN.ev (h : EvN K te ρ M ds M') : Ev K te ρ M (.dat (.list ds)) M' := fun F L σ H o Q q => h F L σ H o Q fun p vs H1 hp o1 e s1 h1 h2 => q _ H1 o1.lift e s1 (.lst (.inl (by
    rw [hid_out (o.fresh hp)]; exact h1)) (DpAll.mono (hid_sub fun _ z => List.mem_cons_of_mem _ z) h2))
theorem chain2 (e : ad M1 = ad M) (a : Same (hid (ad M) H) H0) (b : Same (hid (ad M1) H0) H1) : Same (hid (ad M) H) H1 := fun x y q => by
  refine b x y ?_
  obtain ⟨n, _⟩ := hid_some q
  rw [hid_out (by rw [e]; exact n)]; exact a x y q
theorem later {v : V} (e : ad M1 = ad M) (b : Same (hid (ad M1) H0) H1) (h : SlOk K (hid (L ++ ad M) H0) v s) : SlOk K (hid (L ++ ad M) H1) v s := h.mono (same_vis b fun _ z => List.mem_append_right _ (e ▸ z))
theorem Ev.two (ha : Ev K ta ρ M s1 M1) (hb : Ev K tb ρ M1 s2 M2) (o : Ok K F L σ H ρ M) {R : V → V → Hp → Prop} (h : ∀ x y H2, Ok K F L σ H2 ρ M2 → ad M2 = ad M → Same (hid (ad M) H) H2 → SlOk K (hid (L ++ ad M) H2) x s1 → SlOk K (hid (L ++ ad M) H2) y s2 → R x y H2) :
    ta σ H fun x H1 => tb σ H1 fun y H2 => R x y H2 := ha F L σ H o _ fun x H1 o1 e1 a1 x1 => hb F L σ H1 o1 _ fun y H2 o2 e2 a2 y2 => h x y H2 o2 (e2.trans e1) (chain2 e1 a1 a2) (later e1 a2 x1) (by rw [e1] at y2; exact y2)
theorem EvA.nil : EvA K tNil ρ M [] M := fun F L σ H o Q q => q [] H o rfl (hid_le _ _) .nil
theorem EvA.cons (ha : Ev K ta ρ M s M1) (hr : EvA K tr ρ M1 ss M2) : EvA K (tCons ta tr) ρ M (s :: ss) M2 := fun F L σ H o Q q =>
  ha F L σ H o _ fun x H1 o1 e1 a1 x1 => hr F L σ H1 o1 _ fun ys H2 o2 e2 a2 y2 => q (x :: ys) H2 o2 (e2.trans e1) (chain2 e1 a1 a2) (.cons (later e1 a2 x1) (by rw [e1] at y2; exact y2))
theorem ev_varD {i : Nat} (h : ρ[i]? = some (.dat d)) : Ev K (tVar i) ρ M (.dat d) M := fun F L σ H o Q q => by
  obtain ⟨v, h1, h2⟩ := o.get h (fun z => nomatch z)
  exact ⟨v, h1, q v H o rfl (hid_le _ _) h2⟩
theorem ev_varL {i : Nat} {v : V} (h : ρ[i]? = some (.loc v)) : Ev K (tVar i) ρ M (.loc v) M := fun F L σ H o Q q => by
  obtain ⟨v, h1, h2⟩ := o.get h (fun z => nomatch z)
  exact ⟨v, h1, q v H o rfl (hid_le _ _) h2⟩
theorem ev_c {v : V} (h : ∀ H, SlOk K H v s) : Ev K (tC v) ρ M s M := fun F L σ H o Q q => q v H o rfl (hid_le _ _) (h _)
theorem ev_int {i : Int} : Ev K (tC (.int i)) ρ M (.dat (.int i)) M := ev_c fun _ => .int i
theorem ev_bl {b : Bool} : Ev K (tC (.bl b)) ρ M (.dat (.bool b)) M := ev_c fun _ => .bl b
theorem ev_str {x : Str} : Ev K (tC (.str x)) ρ M (.dat (.str x)) M := ev_c fun _ => .str x
theorem ev_non : Ev K (tC .non) ρ M (.dat .none) M := ev_c fun _ => .non
/-- a place of K -/
theorem ev_ref {a : Addr} : Ev K (tC (.ref a)) ρ M (.loc (.ref a)) M := ev_c fun _ => rfl
theorem ev_op {r : R2} (ha : Ev K ta ρ M s1 M1) (hb : Ev K tb ρ M1 s2 M2)
    (hr : ∀ F L σ H x y, Ok K F L σ H ρ M2 → SlOk K (hid (L ++ ad M2) H) x s1 → SlOk K (hid (L ++ ad M2) H) y s2 → ∀ Q : VK, (∀ v H1, Same H H1 → SlOk K (hid (L ++ ad M2) H1) v s → Q v H1) → r x y H Q) : Ev K (tOp r ta tb) ρ M s M2 := fun F L σ H o Q q =>
  ha.two hb o fun x y H2 o2 e2 a2 hx hy => hr F L σ H2 x y o2 (by rw [e2]; exact hx) (by rw [e2]; exact hy) Q fun v H3 s3 h3 => q v H3 (o2.mono s3) e2 (a2.trans s3) (by rw [e2] at h3; exact h3)
theorem int_of {v : V} {i : Int} (h : SlOk K H v (.dat (.int i))) : v = .int i := by
  have h' : Dp K H v (.int i) := h
  cases h'; rfl
theorem str_of {v : V} {i : Str} (h : SlOk K H v (.dat (.str i))) : v = .str i := by
  have h' : Dp K H v (.str i) := h
  cases h'; rfl
theorem bl_of {v : V} {i : Bool} (h : SlOk K H v (.dat (.bool i))) : v = .bl i := by
  have h' : Dp K H v (.bool i) := h
  cases h'; rfl
theorem non_of {v : V} (h : SlOk K H v (.dat .none)) : v = .non := by
  have h' : Dp K H v .none := h
  cases h'; rfl
theorem list_of {v : V} {ds : List PyData} (h : SlOk K H v (.dat (.list ds))) : ∃ a xs, v = .ref a ∧ Rd H a (.lst xs) ∧ DpAll K H xs ds := by
  have h' : Dp K H v (.list ds) := h
  cases h' with
  | lst h1 h2 => exact ⟨_, _, rfl, h1, h2⟩
theorem tupK_of {v : V} {ds : List PyData} (h : SlOk K H v (.dat (.tuple ds))) : ∃ a xs, v = .ref a ∧ H a = some (.tup xs) ∧ DpAll K H xs ds := by
  have h' : Dp K H v (.tuple ds) := h
  cases h' with
  | tup h1 h2 => exact ⟨_, _, rfl, h1, h2⟩
theorem tup_of {v : V} {ds : List PyData} (h : SlOk K H v (.dat (.tuple ds))) : ∃ a xs, v = .ref a ∧ SqT K H a xs ∧ DpAll K H xs ds := by
  obtain ⟨a, xs, e, h1, h2⟩ := tupK_of h
  exact ⟨a, xs, e, .inl (.inl h1), h2⟩
theorem scr_of {v : V} {ns : List Int} (h : SlOk K H v (.dat (dScr ns))) : ∃ a, v = .ref a ∧ SqL K H a (ns.map V.int) := by
  have h' : Dp K H v (dScr ns) := h
  generalize hd : dScr ns = d at h'
  cases h' with
  | scr h1 =>
    rename_i a ms
    have e : ms = ns := by
      have e0 := PyData.dict.inj hd
      have e1 := congrArg (List.map fun p : PyData × PyData => match p.1 with | .int i => i | _ => 0) e0
      rw [List.map_map, List.map_map] at e1
      have f : ∀ l : List Int, List.map ((fun p : PyData × PyData => match p.1 with | .int i => i | _ => 0) ∘ fun i => (PyData.int i, PyData.none)) l = l := fun l => by
        induction l with
        | nil => rfl
        | cons x r ih => rw [List.map_cons, ih]; rfl
      rw [f, f] at e1
      exact e1.symm
    subst e
    exact ⟨a, rfl, h1⟩
  | _ => cases hd
theorem SqT.mono {a : Addr} {xs : List V} (s : Same H H') (h : SqT K H a xs) : SqT K H' a xs := by
  rcases h with (h | ⟨o, h⟩) | h
  · exact .inl (.inl (s _ _ h))
  · exact .inl (.inr ⟨o, s _ _ h⟩)
  · exact .inr h
theorem dpAll_of : ∀ {vs : List V} {ds : List PyData}, Paired (SlOk K H) vs (ds.map Sl.dat) → DpAll K H vs ds
  | _, [], h => by cases h; exact .nil
  | _, d :: ds, h => by
    cases h with
    | cons h a => exact .cons h (dpAll_of a)
theorem of_dpAll : ∀ {vs : List V} {ds : List PyData}, DpAll K H vs ds → Paired (SlOk K H) vs (ds.map Sl.dat)
  | _, _, .nil => .nil
  | _, _, .cons h a => .cons h (of_dpAll a)
theorem ev_I0 {g : Int → Int → V} {i j : Int} (ha : Ev K ta ρ M (.dat (.int i)) M1) (hb : Ev K tb ρ M1 (.dat (.int j)) M2) (hg : ∀ H, SlOk K H (g i j) s) : Ev K (tOp (rI0 g) ta tb) ρ M s M2 :=
  ev_op ha hb fun F L σ H x y o hx hy Q q => ⟨i, j, int_of hx, int_of hy, q _ H (Same.refl H) (hg _)⟩
theorem ev_I {C : Int → Int → Prop} {g : Int → Int → V} {i j : Int} (ha : Ev K ta ρ M (.dat (.int i)) M1) (hb : Ev K tb ρ M1 (.dat (.int j)) M2) (hc : C i j) (hg : ∀ H, SlOk K H (g i j) s) : Ev K (tOp (rI C g) ta tb) ρ M s M2 :=
  ev_op ha hb fun F L σ H x y o hx hy Q q => ⟨i, j, int_of hx, int_of hy, hc, q _ H (Same.refl H) (hg _)⟩
section
variable {i j : Int} (ha : Ev K ta ρ M (.dat (.int i)) M1) (hb : Ev K tb ρ M1 (.dat (.int j)) M2)
include ha hb
theorem ev_add : Ev K (tOp (rI0 fun i j => .int (i + j)) ta tb) ρ M (.dat (.int (i + j))) M2 := ev_I0 ha hb fun _ => .int _
theorem ev_sub : Ev K (tOp (rI0 fun i j => .int (i - j)) ta tb) ρ M (.dat (.int (i - j))) M2 := ev_I0 ha hb fun _ => .int _
theorem ev_lt : Ev K (tOp (rI0 fun i j => .bl (decide (i < j))) ta tb) ρ M (.dat (.bool (decide (i < j)))) M2 := ev_I0 ha hb fun _ => .bl _
theorem ev_le : Ev K (tOp (rI0 fun i j => .bl (decide (i ≤ j))) ta tb) ρ M (.dat (.bool (decide (i ≤ j)))) M2 := ev_I0 ha hb fun _ => .bl _
theorem ev_gt : Ev K (tOp (rI0 fun i j => .bl (decide (j < i))) ta tb) ρ M (.dat (.bool (decide (j < i)))) M2 := ev_I0 ha hb fun _ => .bl _
theorem ev_ge : Ev K (tOp (rI0 fun i j => .bl (decide (j ≤ i))) ta tb) ρ M (.dat (.bool (decide (j ≤ i)))) M2 := ev_I0 ha hb fun _ => .bl _
theorem ev_mul (hc : CMul i j) : Ev K (tOp (rI CMul fun i j => .int (i * j)) ta tb) ρ M (.dat (.int (i * j))) M2 := ev_I ha hb hc fun _ => .int _
theorem ev_div (hc : CDiv i j) : Ev K (tOp (rI CDiv fun i j => .int (i / j)) ta tb) ρ M (.dat (.int (i / j))) M2 := ev_I ha hb hc fun _ => .int _
theorem ev_mod (hc : 0 < j) : Ev K (tOp (rI (fun _ j => 0 < j) fun i j => .int (i % j)) ta tb) ρ M (.dat (.int (i % j))) M2 := ev_I ha hb hc fun _ => .int _
theorem ev_pow (hc : CPow i j) : Ev K (tOp (rI CPow fun i j => .int (i ^ j.toNat)) ta tb) ρ M (.dat (.int (i ^ j.toNat))) M2 := ev_I ha hb hc fun _ => .int _
theorem ev_eqI : Ev K (tOp rEq ta tb) ρ M (.dat (.bool (decide (i = j)))) M2 := ev_op ha hb fun F L σ H x y o hx hy Q q => by
  rw [int_of hx, int_of hy]
  refine ⟨rfl, q _ H (Same.refl H) ?_⟩
  rw [show decide (V.int i = V.int j) = decide (i = j) by simp]
  exact .bl _
theorem ev_neI : Ev K (tOp rNe ta tb) ρ M (.dat (.bool (!decide (i = j)))) M2 := ev_op ha hb fun F L σ H x y o hx hy Q q => by
  rw [int_of hx, int_of hy]
  refine ⟨rfl, q _ H (Same.refl H) ?_⟩
  rw [show decide (V.int i = V.int j) = decide (i = j) by simp]
  exact .bl _
end
theorem ev_eqS {i j : Str} (ha : Ev K ta ρ M (.dat (.str i)) M1) (hb : Ev K tb ρ M1 (.dat (.str j)) M2) : Ev K (tOp rEq ta tb) ρ M (.dat (.bool (decide (i = j)))) M2 := ev_op ha hb fun F L σ H x y o hx hy Q q => by
  rw [str_of hx, str_of hy]
  refine ⟨rfl, q _ H (Same.refl H) ?_⟩
  rw [show decide (V.str i = V.str j) = decide (i = j) by simp]
  exact .bl _
theorem ev_neS {i j : Str} (ha : Ev K ta ρ M (.dat (.str i)) M1) (hb : Ev K tb ρ M1 (.dat (.str j)) M2) : Ev K (tOp rNe ta tb) ρ M (.dat (.bool (!decide (i = j)))) M2 := ev_op ha hb fun F L σ H x y o hx hy Q q => by
  rw [str_of hx, str_of hy]
  refine ⟨rfl, q _ H (Same.refl H) ?_⟩
  rw [show decide (V.str i = V.str j) = decide (i = j) by simp]
  exact .bl _
/-- == of data at any depth -/
theorem ev_eqD (ha : Ev K ta ρ M (.dat d1) M1) (hb : Ev K tb ρ M1 (.dat d2) M2) (h1 : SeqAt.shaped d1 = true) (h2 : SeqAt.shaped d2 = true) : Ev K (tOp (rEqD K) ta tb) ρ M (.dat (.bool (PyData.eqv d1 d2))) M2 :=
  ev_op ha hb fun F L σ H x y o hx hy Q q => ⟨d1, d2, Dp.lo (Dp.mono (hid_le _ _) hx) (SeqAt.canLay_of_shaped h1), Dp.lo (Dp.mono (hid_le _ _) hy) (SeqAt.canLay_of_shaped h2), h1, h2, q _ H (Same.refl H) (.bl _)⟩
theorem ev_neD (ha : Ev K ta ρ M (.dat d1) M1) (hb : Ev K tb ρ M1 (.dat d2) M2) (h1 : SeqAt.shaped d1 = true) (h2 : SeqAt.shaped d2 = true) : Ev K (tOp (rNeD K) ta tb) ρ M (.dat (.bool (!PyData.eqv d1 d2))) M2 :=
  ev_op ha hb fun F L σ H x y o hx hy Q q => ⟨d1, d2, Dp.lo (Dp.mono (hid_le _ _) hx) (SeqAt.canLay_of_shaped h1), Dp.lo (Dp.mono (hid_le _ _) hy) (SeqAt.canLay_of_shaped h2), h1, h2, q _ H (Same.refl H) (.bl _)⟩
theorem ev_isN (ha : Ev K ta ρ M (.dat d) M1) : Ev K (tOp (fun x y H Q => y = .non ∧ Q (.bl (decide (x = .non))) H) ta (tC .non)) ρ M (.dat (.bool (match d with | .none => true | _ => false))) M1 :=
  ev_op ha ev_non fun F L σ H x y o hx hy Q q => ⟨non_of hy, q _ H (Same.refl H) (by
    have hx' : Dp K (hid (L ++ ad M1) H) x d := hx
    cases hx' <;> exact .bl _)⟩
theorem ev_notN (ha : Ev K ta ρ M (.dat d) M1) : Ev K (tOp (fun x y H Q => y = .non ∧ Q (.bl (!decide (x = .non))) H) ta (tC .non)) ρ M (.dat (.bool (match d with | .none => false | _ => true))) M1 :=
  ev_op ha ev_non fun F L σ H x y o hx hy Q q => ⟨non_of hy, q _ H (Same.refl H) (by
    have hx' : Dp K (hid (L ++ ad M1) H) x d := hx
    cases hx' <;> exact .bl _)⟩
theorem ev_neg {i : Int} (ha : Ev K ta ρ M (.dat (.int i)) M1) : Ev K (tUn (rU fun i => .int (-i)) ta) ρ M (.dat (.int (-i))) M1 := fun F L σ H o Q q =>
  ha F L σ H o _ fun x H1 o1 e1 a1 x1 => ⟨i, int_of x1, q _ H1 o1 e1 a1 (.int _)⟩
/-! ### tests -/
theorem et_test {b : Bool} (h : Ev K te ρ M (.dat (.bool b)) M1) : EvT K (tTest te) ρ M b M1 := fun F L σ H o Q q => h F L σ H o _ fun x H1 o1 e1 a1 x1 => ⟨b, bl_of x1, q H1 o1 e1 a1⟩
theorem et_B {b : Bool} (h : Ev K te ρ M (.dat (.bool b)) M1) : EvT K (tB te) ρ M b M1 := fun F L σ H o Q q => h F L σ H o _ fun x H1 o1 e1 a1 x1 => ⟨b, bl_of x1, q H1 o1 e1 a1⟩
/-- the second is asked only where the first is true: M stays -/
theorem et_and {a b : Bool} (h1 : EvT K tt ρ M a M) (h2 : a = true → EvT K tu ρ M b M) : EvT K (tAnd tt tu) ρ M (a && b) M := fun F L σ H o Q q => h1 F L σ H o _ fun H1 o1 e1 a1 => by
  cases a with
  | true => exact h2 rfl F L σ H1 o1 _ fun H2 o2 e2 a2 => q H2 o2 e2 (chain2 e1 a1 a2)
  | false => exact q H1 o1 e1 a1
theorem et_or {a b : Bool} (h1 : EvT K tt ρ M a M) (h2 : a = false → EvT K tu ρ M b M) : EvT K (tOr tt tu) ρ M (a || b) M := fun F L σ H o Q q => h1 F L σ H o _ fun H1 o1 e1 a1 => by
  cases a with
  | true => exact q H1 o1 e1 a1
  | false => exact h2 rfl F L σ H1 o1 _ fun H2 o2 e2 a2 => q H2 o2 e2 (chain2 e1 a1 a2)
/-- the second may draw: behind false M is as it was -/
theorem et_andM {a b : Bool} (h1 : EvT K tt ρ M a M) (h2 : a = true → EvT K tu ρ M b M1) (e : ad M1 = ad M) : EvT K (tAnd tt tu) ρ M (a && b) (if a = true then M1 else M) := fun F L σ H o Q q => h1 F L σ H o _ fun H1 o1 e1 a1 => by
  cases a with
  | true => exact h2 rfl F L σ H1 o1 _ fun H2 o2 e2 a2 => q H2 o2 e2 (chain2 e1 a1 a2)
  | false => exact q H1 o1 e1 a1
theorem et_not {a : Bool} (h1 : EvT K tt ρ M a M1) : EvT K (tNot tt) ρ M (!a) M1 := fun F L σ H o Q q => h1 F L σ H o _ fun H1 o1 e1 a1 => q H1 o1 e1 a1
theorem et_is {a b : Bool} (h : EvT K tt ρ M a M1) (e : a = b) : EvT K tt ρ M b M1 := by rw [← e]; exact h
theorem ev_is (h : Ev K te ρ M s1 M1) (e : s1 = s2) : Ev K te ρ M s2 M1 := by rw [← e]; exact h
theorem ev_isM (h : Ev K te ρ M s M1) (e : M1 = M2) : Ev K te ρ M s M2 := by rw [← e]; exact h
theorem ev_isD (h : Ev K te ρ M (.dat d1) M1) (e : d1 = d2) : Ev K te ρ M (.dat d2) M1 := by rw [← e]; exact h
theorem evn_is (h : EvN K te ρ M ds M1) (e : ds = es) : EvN K te ρ M es M1 := by rw [← e]; exact h
theorem ev_andV {a b : Bool} (h1 : Ev K ta ρ M (.dat (.bool a)) M) (h2 : a = true → Ev K tb ρ M (.dat (.bool b)) M) : Ev K (tAndV ta tb) ρ M (.dat (.bool (a && b))) M := fun F L σ H o Q q => h1 F L σ H o _ fun x H1 o1 e1 a1 x1 => ⟨a, bl_of x1, by
  cases a with
  | true => exact h2 rfl F L σ H1 o1 _ fun v H2 o2 e2 a2 x2 => q v H2 o2 e2 (chain2 e1 a1 a2) x2
  | false => exact q _ H1 o1 e1 a1 (.bl _)⟩
theorem ev_orV {a b : Bool} (h1 : Ev K ta ρ M (.dat (.bool a)) M) (h2 : a = false → Ev K tb ρ M (.dat (.bool b)) M) : Ev K (tOrV ta tb) ρ M (.dat (.bool (a || b))) M := fun F L σ H o Q q => h1 F L σ H o _ fun x H1 o1 e1 a1 x1 => ⟨a, bl_of x1, by
  cases a with
  | true => exact q _ H1 o1 e1 a1 (.bl _)
  | false => exact h2 rfl F L σ H1 o1 _ fun v H2 o2 e2 a2 x2 => q v H2 o2 e2 (chain2 e1 a1 a2) x2⟩
theorem ev_notV {a : Bool} (h1 : Ev K ta ρ M (.dat (.bool a)) M1) : Ev K (tNotV ta) ρ M (.dat (.bool (!a))) M1 := fun F L σ H o Q q => h1 F L σ H o _ fun x H1 o1 e1 a1 x1 => ⟨a, bl_of x1, q _ H1 o1 e1 a1 (.bl _)⟩
theorem ev_if {b : Bool} (h : EvT K tt ρ M b M) (h1 : b = true → Ev K ta ρ M s M1) (h2 : b = false → Ev K tb ρ M s M1) : Ev K (tIf tt ta tb) ρ M s M1 := fun F L σ H o Q q => h F L σ H o _ fun H1 o1 e1 a1 => by
  cases b with
  | true => exact h1 rfl F L σ H1 o1 _ fun v H2 o2 e2 a2 x2 => q v H2 o2 e2 (chain2 e1 a1 a2) x2
  | false => exact h2 rfl F L σ H1 o1 _ fun v H2 o2 e2 a2 x2 => q v H2 o2 e2 (chain2 e1 a1 a2) x2
/-- both ways by data -/
theorem ev_ite {b : Bool} (h : EvT K tt ρ M b M) (h1 : b = true → Ev K ta ρ M (.dat d1) M) (h2 : b = false → Ev K tb ρ M (.dat d2) M) : Ev K (tIf tt ta tb) ρ M (.dat (if b = true then d1 else d2)) M := by
  refine ev_if h (fun e => ?_) fun e => ?_
  · rw [if_pos e]; exact h1 e
  · rw [if_neg (by rw [e]; exact Bool.false_ne_true)]; exact h2 e
theorem ev_chain {r r' : R2} {i j k : Int} {p p' : Int → Int → Bool} (hr : r = rI0 fun i j => .bl (p i j)) (hr' : r' = rI0 fun i j => .bl (p' i j)) (ha : Ev K ta ρ M (.dat (.int i)) M) (hb : Ev K tb ρ M (.dat (.int j)) M) (hc : Ev K tc ρ M (.dat (.int k)) M) :
    Ev K (tChain r r' ta tb tc) ρ M (.dat (.bool (p i j && p' j k))) M := by
  subst hr hr'
  refine fun F L σ H o Q q => ha.two hb o fun x y H2 o2 e2 a2 hx hy => ⟨i, j, int_of hx, int_of hy, _, rfl, ?_⟩
  cases e : p i j with
  | false =>
    rw [if_neg Bool.false_ne_true]
    refine q _ H2 o2 e2 a2 ?_
    rw [e]; exact .bl _
  | true =>
    rw [if_pos rfl]
    refine hc F L σ H2 o2 _ fun z H3 o3 e3 a3 hz => ⟨j, k, int_of (later e2 a3 hy), int_of hz, q _ H3 o3 e3 (chain2 e2 a2 a3) ?_⟩
    rw [e]; exact .bl _
end
end Wm

namespace Wm
open PySem L2 PySem.Spec PyProof.Rows
section
variable {K : PySem.W.Frag} {F F' H H' H0 H1 : Hp} {L : List Addr} {σ : L2.St} {ρ ρ' : List Sl} {M M' M1 M2 M3 : Ms}
variable {te ta tb tc ti : TE} {tt tu : TT} {tr : TA} {s s1 s2 : Sl} {ss : List Sl} {d d1 d2 : PyData} {ds es : List PyData}
theorem paired_len {α β : Type} {G : α → β → Prop} : ∀ {xs : List α} {ys : List β}, Paired G xs ys → xs.length = ys.length
  | _, _, .nil => rfl
  | _, _, .cons _ t => by rw [List.length_cons, List.length_cons, paired_len t]
theorem line_of {n : Nat} (h : n ≤ 1000000) : n ≤ sizeLine := Nat.le_trans h (by decide)
theorem line_lt {n : Nat} (h : n < 1000000) : n < sizeLine := Nat.lt_of_lt_of_le h (by decide)
/-! ### displays -/
theorem evn_lst (h : EvA K tr ρ M (ds.map Sl.dat) M1) (hl : ds.length ≤ 1000000 := by first | decide | (simp; done) | omega) : EvN K (tLst tr) ρ M ds M1 := fun F L σ H o Q q =>
  h F L σ H o _ fun vs H1 o1 e1 a1 x1 => ⟨by rw [paired_len x1, List.length_map]; exact line_of hl, fun p hp => by
    have hp0 : H p = none := by
      cases e : H p with
      | none => rfl
      | some y =>
        by_cases n : p ∈ ad M
        · exact absurd hp (o1.there (List.mem_append_right _ (by rw [e1]; exact n)))
        · have := a1 p y (by rw [hid_out n]; exact e)
          rw [hp] at this; cases this
    exact q p vs _ hp0 (o1.lay hp) e1 (a1.trans (same_new hp)) upd_same (DpAll.mono (same_lay hp) (dpAll_of x1))⟩
theorem ev_tup (h : EvA K tr ρ M (ds.map Sl.dat) M1) (hl : ds.length ≤ 1000000 := by first | decide | (simp; done) | omega) : Ev K (tTup tr) ρ M (.dat (.tuple ds)) M1 := fun F L σ H o Q q =>
  h F L σ H o _ fun vs H1 o1 e1 a1 x1 => ⟨by rw [paired_len x1, List.length_map]; exact line_of hl, fun p hp => by
    refine q _ _ (o1.new hp) e1 (a1.trans (same_new hp)) (.tup ?_ (DpAll.mono (hid_mono (same_new hp)) (dpAll_of x1)))
    rw [hid_out (by rw [← e1]; exact o1.fresh hp)]; exact upd_same⟩
/-! ### a thing that hands back a new list -/
theorem back_none (o : Ok K F L σ H ρ M) (o1 : Ok K F L σ H1 ρ M1) (e1 : ad M1 = ad M) (a1 : Same (hid (ad M) H) H1) {p : Addr} (hp : H1 p = none) : H p = none := by
  cases e : H p with
  | none => rfl
  | some y =>
    by_cases n : p ∈ ad M
    · exact absurd hp (o1.there (List.mem_append_right _ (by rw [e1]; exact n)))
    · have := a1 p y (by rw [hid_out n]; exact e)
      rw [hp] at this; cases this
theorem evn_op {r : R2} (ha : Ev K ta ρ M s1 M1) (hb : Ev K tb ρ M1 s2 M2)
    (hr : ∀ F L σ H x y, Ok K F L σ H ρ M2 → SlOk K (hid (L ++ ad M2) H) x s1 → SlOk K (hid (L ++ ad M2) H) y s2 → ∀ Q : VK, (∀ p vs, H p = none → DpAll K (hid (L ++ ad M2) H) vs ds → Q (.ref p) (upd H p (.lst vs))) → r x y H Q) : EvN K (tOp r ta tb) ρ M ds M2 := fun F L σ H o Q q =>
  ha.two hb o fun x y H2 o2 e2 a2 hx hy => hr F L σ H2 x y o2 (by rw [e2]; exact hx) (by rw [e2]; exact hy) Q fun p vs hp h3 => q p vs _ (back_none o o2 e2 a2 hp) (o2.lay hp) e2 (a2.trans (same_new hp)) upd_same (by rw [e2] at h3; exact DpAll.mono (same_lay hp) h3)
theorem evn_cb {r : List V → Hp → VK → Prop} (ha : EvA K tr ρ M ss M1)
    (hr : ∀ F L σ H xs, Ok K F L σ H ρ M1 → Paired (SlOk K (hid (L ++ ad M1) H)) xs ss → ∀ Q : VK, (∀ p vs, H p = none → DpAll K (hid (L ++ ad M1) H) vs ds → Q (.ref p) (upd H p (.lst vs))) → r xs H Q) : EvN K (tCB r tr) ρ M ds M1 := fun F L σ H o Q q =>
  ha F L σ H o _ fun xs H2 o2 e2 a2 hx => hr F L σ H2 xs o2 (by rw [e2]; exact hx) Q fun p vs hp h3 => q p vs _ (back_none o o2 e2 a2 hp) (o2.lay hp) e2 (a2.trans (same_new hp)) upd_same (by rw [e2] at h3; exact DpAll.mono (same_lay hp) h3)
theorem ev_cb {r : List V → Hp → VK → Prop} (ha : EvA K tr ρ M ss M1)
    (hr : ∀ F L σ H xs, Ok K F L σ H ρ M1 → Paired (SlOk K (hid (L ++ ad M1) H)) xs ss → ∀ Q : VK, (∀ v H1, Same H H1 → SlOk K (hid (L ++ ad M1) H1) v s → Q v H1) → r xs H Q) : Ev K (tCB r tr) ρ M s M1 := fun F L σ H o Q q =>
  ha F L σ H o _ fun xs H2 o2 e2 a2 hx => hr F L σ H2 xs o2 (by rw [e2]; exact hx) Q fun v H3 s3 h3 => q v H3 (o2.mono s3) e2 (a2.trans s3) (by rw [e2] at h3; exact h3)
theorem one_of {G : Hp} {xs : List V} {s : Sl} (h : Paired (SlOk K G) xs [s]) : ∃ v, xs = [v] ∧ SlOk K G v s := by
  cases h with
  | cons a t => cases t; exact ⟨_, rfl, a⟩
theorem two_of {G : Hp} {xs : List V} {s s' : Sl} (h : Paired (SlOk K G) xs [s, s']) : ∃ v w, xs = [v, w] ∧ SlOk K G v s ∧ SlOk K G w s' := by
  cases h with
  | cons a t =>
    cases t with
    | cons b t => cases t; exact ⟨_, _, rfl, a, b⟩
theorem SqL.vis {a : Addr} {xs : List V} {X : List Addr} (h : Rd (hid X H) a (.lst xs)) : SqL K H a xs := .inl (Rd.mono (hid_le X H) h)
theorem SqT.vis {a : Addr} {xs : List V} {X : List Addr} (h : SqT K (hid X H) a xs) : SqT K H a xs := SqT.mono (hid_le X H) h
/-! ### built-ins -/
def rAbs : List V → Hp → VK → Prop := fun xs H Q => ∃ i, xs = [.int i] ∧ Q (.int (if i < 0 then -i else i)) H
def rMax2 : List V → Hp → VK → Prop := fun xs H Q => ∃ i j, xs = [.int i, .int j] ∧ Q (.int (if j > i then j else i)) H
def rMin2 : List V → Hp → VK → Prop := fun xs H Q => ∃ i j, xs = [.int i, .int j] ∧ Q (.int (if j < i then j else i)) H
def rInt1 : List V → Hp → VK → Prop := fun xs H Q => (∃ i, xs = [.int i] ∧ Q (.int i) H) ∨ ∃ k, xs = [.bl k] ∧ Q (.int (if k then 1 else 0)) H
def rLen (K : PySem.W.Frag) : List V → Hp → VK → Prop := fun xs H Q => ∃ p ys, xs = [.ref p] ∧ (SqL K H p ys ∨ SqT K H p ys) ∧ Q (.int ys.length) H
def rListOf (K : PySem.W.Frag) : List V → Hp → VK → Prop := fun xs H Q => ∃ p ys, xs = [.ref p] ∧ (SqL K H p ys ∨ SqT K H p ys) ∧ ∀ l, H l = none → Q (.ref l) (upd H l (.lst ys))
theorem c_abs {X : Cx} : CallR X (.builtin "abs") rAbs := call_abs
theorem c_max2 {X : Cx} (hc : X.calm = true) : CallR X (.builtin "max") rMax2 := call_max2 hc
theorem c_min2 {X : Cx} (hc : X.calm = true) : CallR X (.builtin "min") rMin2 := call_min2 hc
theorem c_int1 {X : Cx} : CallR X (.type "int") rInt1 := call_int1
theorem c_len {X : Cx} : CallR X (.builtin "len") (rLen X.K) := call_len_seq
theorem c_list {X : Cx} : CallR X (.type "list") (rListOf X.K) := call_list_of
theorem ev_abs {i : Int} (ha : EvA K tr ρ M [.dat (.int i)] M1) : Ev K (tCB rAbs tr) ρ M (.dat (.int (i.natAbs : Int))) M1 := ev_cb ha fun F L σ H xs o hx Q q => by
  obtain ⟨v, rfl, h⟩ := one_of hx
  rw [int_of h]
  refine ⟨i, rfl, q _ H (Same.refl H) ?_⟩
  rw [show (if i < 0 then -i else i) = (i.natAbs : Int) by split <;> omega]
  exact .int _
theorem ev_max2 {i j : Int} (ha : EvA K tr ρ M [.dat (.int i), .dat (.int j)] M1) : Ev K (tCB rMax2 tr) ρ M (.dat (.int (max i j))) M1 := ev_cb ha fun F L σ H xs o hx Q q => by
  obtain ⟨v, w, rfl, h, h'⟩ := two_of hx
  rw [int_of h, int_of h']
  refine ⟨i, j, rfl, q _ H (Same.refl H) ?_⟩
  rw [show (if j > i then j else i) = max i j by omega]
  exact .int _
theorem ev_min2 {i j : Int} (ha : EvA K tr ρ M [.dat (.int i), .dat (.int j)] M1) : Ev K (tCB rMin2 tr) ρ M (.dat (.int (min i j))) M1 := ev_cb ha fun F L σ H xs o hx Q q => by
  obtain ⟨v, w, rfl, h, h'⟩ := two_of hx
  rw [int_of h, int_of h']
  refine ⟨i, j, rfl, q _ H (Same.refl H) ?_⟩
  rw [show (if j < i then j else i) = min i j by omega]
  exact .int _
theorem ev_intB {b : Bool} (ha : EvA K tr ρ M [.dat (.bool b)] M1) : Ev K (tCB rInt1 tr) ρ M (.dat (.int (if b = true then 1 else 0))) M1 := ev_cb ha fun F L σ H xs o hx Q q => by
  obtain ⟨v, rfl, h⟩ := one_of hx
  rw [bl_of h]
  exact .inr ⟨b, rfl, q _ H (Same.refl H) (.int _)⟩
theorem ev_lenL (ha : EvA K tr ρ M [.dat (.list ds)] M1) : Ev K (tCB (rLen K) tr) ρ M (.dat (.int (ds.length : Int))) M1 := ev_cb ha fun F L σ H xs o hx Q q => by
  obtain ⟨v, rfl, h⟩ := one_of hx
  obtain ⟨a, ys, rfl, h1, h2⟩ := list_of h
  refine ⟨a, ys, rfl, .inl (SqL.vis h1), q _ H (Same.refl H) ?_⟩
  rw [h2.length]; exact .int _
theorem ev_lenT (ha : EvA K tr ρ M [.dat (.tuple ds)] M1) : Ev K (tCB (rLen K) tr) ρ M (.dat (.int (ds.length : Int))) M1 := ev_cb ha fun F L σ H xs o hx Q q => by
  obtain ⟨v, rfl, h⟩ := one_of hx
  obtain ⟨a, ys, rfl, h1, h2⟩ := tup_of h
  refine ⟨a, ys, rfl, .inr (SqT.vis h1), q _ H (Same.refl H) ?_⟩
  rw [h2.length]; exact .int _
theorem evn_listL (ha : EvA K tr ρ M [.dat (.list ds)] M1) : EvN K (tCB (rListOf K) tr) ρ M ds M1 := evn_cb ha fun F L σ H xs o hx Q q => by
  obtain ⟨v, rfl, h⟩ := one_of hx
  obtain ⟨a, ys, rfl, h1, h2⟩ := list_of h
  exact ⟨a, ys, rfl, .inl (SqL.vis h1), fun l hl => q l ys hl h2⟩
theorem evn_listT (ha : EvA K tr ρ M [.dat (.tuple ds)] M1) : EvN K (tCB (rListOf K) tr) ρ M ds M1 := evn_cb ha fun F L σ H xs o hx Q q => by
  obtain ⟨v, rfl, h⟩ := one_of hx
  obtain ⟨a, ys, rfl, h1, h2⟩ := tup_of h
  exact ⟨a, ys, rfl, .inr (SqT.vis h1), fun l hl => q l ys hl h2⟩
theorem ev_allB {bs : List Bool} (ha : EvA K tr ρ M [.dat (.list (bs.map PyData.bool))] M1) : Ev K (tCB (rAll K) tr) ρ M (.dat (.bool (bs.all id))) M1 := ev_cb ha fun F L σ H xs o hx Q q => by
  obtain ⟨v, rfl, h⟩ := one_of hx
  obtain ⟨a, ys, rfl, h1, h2⟩ := list_of h
  have e := dp_bls h2
  subst e
  exact ⟨a, bs, rfl, SqL.vis h1, q _ H (Same.refl H) (.bl _)⟩
theorem ev_maxL {ns : List Int} {m : Int} (ha : EvA K tr ρ M [.dat (.list (ns.map PyData.int))] M1) (hm : m ∈ ns) (hx : ∀ y ∈ ns, y ≤ m) : Ev K (tCB (rMax K) tr) ρ M (.dat (.int m)) M1 := ev_cb ha fun F L σ H xs o hv Q q => by
  obtain ⟨v, rfl, h⟩ := one_of hv
  obtain ⟨a, ys, rfl, h1, h2⟩ := list_of h
  have e := dp_ints h2
  subst e
  refine ⟨a, ns, rfl, SqL.vis h1, List.length_pos_of_mem hm, fun k hk hle => ?_⟩
  have e : k = m := Int.le_antisymm (hx k hk) (hle m hm)
  subst e
  exact q _ H (Same.refl H) (.int _)
theorem ev_minL {ns : List Int} {m : Int} (ha : EvA K tr ρ M [.dat (.list (ns.map PyData.int))] M1) (hm : m ∈ ns) (hx : ∀ y ∈ ns, m ≤ y) : Ev K (tCB (rMin K) tr) ρ M (.dat (.int m)) M1 := ev_cb ha fun F L σ H xs o hv Q q => by
  obtain ⟨v, rfl, h⟩ := one_of hv
  obtain ⟨a, ys, rfl, h1, h2⟩ := list_of h
  have e := dp_ints h2
  subst e
  refine ⟨a, ns, rfl, SqL.vis h1, List.length_pos_of_mem hm, fun k hk hle => ?_⟩
  have e : k = m := Int.le_antisymm (hle m hm) (hx k hk)
  subst e
  exact q _ H (Same.refl H) (.int _)
/-! ### subscripts and slices -/
theorem atI_dp {vs : List V} {ds : List PyData} {i : Int} {d : PyData} (h : DpAll K H vs ds) (e : atI ds i = some d) : ∃ v, atI vs i = some v ∧ Dp K H v d := by
  unfold atI at e ⊢
  rw [h.length]
  cases q : ixN ds.length i with
  | none => rw [q] at e; cases e
  | some j =>
    rw [q] at e
    exact h.get e
theorem ev_ixL {i : Int} (ha : Ev K ta ρ M (.dat (.list ds)) M1) (hb : Ev K ti ρ M1 (.dat (.int i)) M2) (e : atI ds i = some d) : Ev K (tOp (rIxL K) ta ti) ρ M (.dat d) M2 := ev_op ha hb fun F L σ H x y o hx hy Q q => by
  obtain ⟨a, ys, rfl, h1, h2⟩ := list_of hx
  obtain ⟨v, e1, h3⟩ := atI_dp h2 e
  exact ⟨a, ys, i, v, rfl, int_of hy, SqL.vis h1, e1, q v H (Same.refl H) h3⟩
theorem ev_ixT {i : Int} (ha : Ev K ta ρ M (.dat (.tuple ds)) M1) (hb : Ev K ti ρ M1 (.dat (.int i)) M2) (e : atI ds i = some d) : Ev K (tOp (rIxT K) ta ti) ρ M (.dat d) M2 := ev_op ha hb fun F L σ H x y o hx hy Q q => by
  obtain ⟨a, ys, rfl, h1, h2⟩ := tup_of hx
  obtain ⟨v, e1, h3⟩ := atI_dp h2 e
  exact ⟨a, ys, i, v, rfl, int_of hy, SqT.vis h1, e1, q v H (Same.refl H) h3⟩
theorem atI_pos {α : Type} {xs : List α} {i : Int} (h0 : 0 ≤ i) (h1 : i < xs.length) : atI xs i = xs[i.toNat]? := by
  unfold atI ixN
  rw [if_pos h0, if_pos h1] <;> rfl
theorem atI_neg1 {α : Type} {xs : List α} (h1 : 0 < xs.length) : atI xs (-1) = xs[xs.length - 1]? := by
  unfold atI ixN
  rw [if_neg (by omega), if_pos (by omega)]
  show xs[((-1 : Int) + xs.length).toNat]? = _
  rw [show ((-1 : Int) + xs.length).toNat = xs.length - 1 by omega]
/-- an object that changes, read by place -/
theorem ev_ixM {i : Int} {p : Addr} (ha : Ev K ta ρ M (.loc (.ref p)) M1) (hb : Ev K ti ρ M1 (.dat (.int i)) M2) (hp : (p, MO.lst ds) ∈ M2) (e : atI ds i = some d) : Ev K (tOp (rIxL K) ta ti) ρ M (.dat d) M2 := ev_op ha hb fun F L σ H x y o hx hy Q q => by
  have ex : x = .ref p := hx
  subst ex
  obtain ⟨vs, h1, h2⟩ := o.ob _ hp
  obtain ⟨v, e1, h3⟩ := atI_dp h2 e
  exact ⟨p, vs, i, v, rfl, int_of hy, SqL.of h1, e1, q v H (Same.refl H) h3⟩
theorem ev_lenM {p : Addr} (ha : EvA K tr ρ M [.loc (.ref p)] M1) (hp : (p, MO.lst ds) ∈ M1) : Ev K (tCB (rLen K) tr) ρ M (.dat (.int (ds.length : Int))) M1 := ev_cb ha fun F L σ H xs o hx Q q => by
  obtain ⟨v, rfl, h⟩ := one_of hx
  have ex : v = .ref p := h
  subst ex
  obtain ⟨vs, h1, h2⟩ := o.ob _ hp
  refine ⟨p, vs, rfl, .inl (SqL.of h1), q _ H (Same.refl H) ?_⟩
  rw [h2.length]; exact .int _
theorem ev_lenScr {ns : List Int} (ha : EvA K tr ρ M [.dat (dScr ns)] M1) : Ev K (tCB (rLen K) tr) ρ M (.dat (.int (ns.length : Int))) M1 := ev_cb ha fun F L σ H xs o hx Q q => by
  obtain ⟨v, rfl, h⟩ := one_of hx
  obtain ⟨a, rfl, h1⟩ := scr_of h
  refine ⟨a, ns.map V.int, rfl, .inl ((hid_le _ _).seq h1), q _ H (Same.refl H) ?_⟩
  rw [List.length_map]; exact .int _
theorem ev_ixScr {ns : List Int} {i : Int} (ha : Ev K ta ρ M (.dat (dScr ns)) M1) (hb : Ev K ti ρ M1 (.dat (.int i)) M2) (h0 : 0 ≤ i) (h1 : i < ns.length) : Ev K (tOp (rIxL K) ta ti) ρ M (.dat (.int (ns.getD i.toNat 0))) M2 := ev_op ha hb fun F L σ H x y o hx hy Q q => by
  obtain ⟨a, rfl, h2⟩ := scr_of hx
  refine ⟨a, ns.map V.int, i, .int (ns.getD i.toNat 0), rfl, int_of hy, (hid_le _ _).seq h2, ?_, q _ H (Same.refl H) (.int _)⟩
  have hi : i.toNat < ns.length := by omega
  rw [atI_pos h0 (by rw [List.length_map]; exact h1), List.getElem?_map, List.getD_eq_getElem?_getD, List.getElem?_eq_getElem hi]
  rfl
/-- a part of a slice -/
def EvO (K : PySem.W.Frag) (to : TO) (ρ : List Sl) (M : Ms) (i : Option Int) (M' : Ms) : Prop := ∀ F L σ H, Ok K F L σ H ρ M → ∀ Q : Option Int → Hp → Prop, (∀ H1, Ok K F L σ H1 ρ M' → ad M' = ad M → Same (hid (ad M) H) H1 → Q i H1) → to σ H Q
theorem eo_no : EvO K tNoPart ρ M none M := fun F L σ H o Q q => q H o rfl (hid_le _ _)
theorem eo_some {i : Int} (h : Ev K te ρ M (.dat (.int i)) M1) : EvO K (tPart te) ρ M (some i) M1 := fun F L σ H o Q q => h F L σ H o _ fun x H1 o1 e1 a1 x1 => ⟨i, int_of x1, q H1 o1 e1 a1⟩
def cutD (xs : List PyData) (lo hi : Option Int) : List PyData := (xs.drop (HT.sIx xs.length 0 lo)).take (HT.sIx xs.length xs.length hi - HT.sIx xs.length 0 lo)
theorem cut_dp {vs : List V} {lo hi : Option Int} (h : DpAll K H vs ds) : DpAll K H (cutV vs lo hi) (cutD ds lo hi) := by
  unfold cutV cutD
  rw [h.length]
  exact (h.drop _).take _
theorem evn_slL {tl th : TO} {lo hi : Option Int} (ha : Ev K ta ρ M (.dat (.list ds)) M1) (hl : EvO K tl ρ M1 lo M2) (hh : EvO K th ρ M2 hi M3) : EvN K (tSl (rSlL K) ta tl th) ρ M (cutD ds lo hi) M3 := fun F L σ H o Q q =>
  ha F L σ H o _ fun x H1 o1 e1 a1 x1 => hl F L σ H1 o1 _ fun H2 o2 e2 a2 => hh F L σ H2 o2 _ fun H3 o3 e3 a3 => by
    have x3 := later (e2.trans e1) a3 (later e1 a2 x1)
    obtain ⟨a, ys, rfl, h1, h2⟩ := list_of x3
    have a13 := chain2 (e2.trans e1) (chain2 e1 a1 a2) a3
    have e13 := e3.trans (e2.trans e1)
    exact ⟨a, ys, rfl, SqL.vis h1, fun p hp => q p _ _ (back_none o o3 e13 a13 hp) (o3.lay hp) e13 (a13.trans (same_new hp)) upd_same (DpAll.mono (same_lay hp) (cut_dp h2))⟩
/-! ### lists: +, * -/
def rCatL : R2 := fun x y H Q => ∃ l b xs zs, x = .ref l ∧ y = .ref b ∧ Rd H l (.lst xs) ∧ Rd H b (.lst zs) ∧ xs.length + zs.length ≤ sizeLine ∧ ∀ p, H p = none → Q (.ref p) (upd H p (.lst (xs ++ zs)))
theorem inv_rd {X : Cx} {pins : List (Addr × Obj)} {s : Shared} {l : Addr} {xs : List V} (I : Inv X pins σ H s) (h : Rd H l (.lst xs)) : xs.length ≤ sizeLine ∧ ∃ (its : List Value) (n : Nat), Vals xs its ∧ xs.length = its.length ∧ s.heap.get? l = some { cls := .type "list", data := .seq its.toArray n } := by
  obtain ⟨z, its, n, r, e⟩ := h.ok I.hok
  exact ⟨z, its, n, r, r.length, e⟩
theorem o_cat {X : Cx} : OpR X (binaryOp .Add) rCatL := by
  intro pins s σ H x y v u Q I rx ry h
  obtain ⟨l, b, xs, zs, rfl, rfl, hH, hB, hz, q⟩ := h
  cases rx
  cases ry
  obtain ⟨z, its, n, r, hl, e⟩ := inv_rd I hH
  obtain ⟨z2, its2, n2, r2, hl2, e2⟩ := inv_rd I hB
  refine PySem.P.add_list e e2 ?_ (by rw [List.size_toArray, List.size_toArray]; omega)
  have ea : its.toArray ++ its2.toArray = (its ++ its2).toArray := by simp
  rw [ea]
  exact ⟨.ref _, _, I.lnew (t' := s.toks) (r.append r2) (by rw [List.length_append]; omega), rfl, q _ I.fresh⟩
theorem evn_cat (ha : Ev K ta ρ M (.dat (.list ds)) M1) (hb : Ev K tb ρ M1 (.dat (.list es)) M2) (hz : ds.length + es.length ≤ 1000000 := by simp; omega) : EvN K (tOp rCatL ta tb) ρ M (ds ++ es) M2 := evn_op ha hb fun F L σ H x y o hx hy Q q => by
  obtain ⟨a, xs, rfl, h1, h2⟩ := list_of hx
  obtain ⟨b, ys, rfl, h3, h4⟩ := list_of hy
  exact ⟨a, b, xs, ys, rfl, rfl, Rd.mono (hid_le _ _) h1, Rd.mono (hid_le _ _) h3, by rw [h2.length, h4.length]; exact line_of hz, fun p hp => q p _ hp (h2.append h4)⟩
def rRepL : R2 := fun x y H Q => ∃ l k xs, x = .ref l ∧ y = .int k ∧ Rd H l (.lst xs) ∧ -(2 ^ 63) ≤ k ∧ k < 2 ^ 63 ∧ xs.length * k.toNat ≤ sizeLine ∧
  ∀ p, H p = none → Q (.ref p) (upd H p (.lst (List.replicate k.toNat xs).flatten))
theorem o_rep {X : Cx} : OpR X (binaryOp .Mult) rRepL := by
  intro pins s σ H x y v u Q I rx ry h
  obtain ⟨l, k, xs, rfl, rfl, hH, h1, h2, hz, q⟩ := h
  rcases hH with hH | ⟨ob, hH⟩
  · exact op_rep pins s σ H _ _ v u Q I rx ry ⟨l, k, xs, rfl, rfl, hH, h1, h2, hz, q⟩
  · cases rx
    obtain ⟨t, rfl⟩ := ry
    obtain ⟨z, its, n, r, hl, e⟩ := inv_rd I (.inr ⟨ob, hH⟩)
    have hlen : its.toArray.size * k.toNat ≤ sizeLine := by rw [List.size_toArray, ← hl]; exact hz
    have hcap : ¬ its.toArray.size * k.toNat > (2 ^ 63 - 1) / 8 := by
      have : (sizeLine : Nat) ≤ (2 ^ 63 - 1) / 8 := by decide
      omega
    have hfit : ¬ (!Builtin.List.listFitsIndex k) = true := by
      rw [fitsIndex_both h1 h2]
      exact Bool.false_ne_true
    have hlong : ¬ Builtin.List.listTooLong (its.toArray.size * k.toNat) = true := by
      rw [notLongL hlen]
      exact Bool.false_ne_true
    have hnew : List.foldl (fun x1 x2 => x1 ++ x2) #[] (List.replicate (if its.toArray.isEmpty = true then 0 else k.toNat) its.toArray) = (List.replicate k.toNat its).flatten.toArray := by
      have f0 : ∀ m : Nat, List.foldl (fun x1 x2 => x1 ++ x2) #[] (List.replicate m its.toArray) = (List.replicate m its).flatten.toArray := fun m => by
        have := foldl_rep its m []
        rw [List.nil_append] at this
        exact this
      rw [f0]
      cases its with
      | nil => simp
      | cons a r' => rw [if_neg (by simp)]
    refine wpAny_binaryOp_repeat_ref (T := "list") (U := "int") (by decide) ⟨_, e, rfl⟩ (fun s' => typeIs_int s' k t) noFill_list_mul F.fills_int_mul F.slot_int_rmul repeat_list F.slot_int_index.lookup
      (call_meets F.slot_int_rmul (typeIs_int s k t) F.entry_int_rmul (F.args_int_rmul_2 _ _) (int___rmul___int_list k t l its.toArray n)
        ⟨e, rfl, ⟨_, e, rfl⟩, call_meets F.slot_list_mul ⟨_, e, rfl⟩ F.entry_list_mul (F.args_list_mul_2 _ _) (AutoListH.list___mul___list_int_3 l its.toArray n k t hfit hcap hlong) ⟨e, ?_⟩⟩)
    rw [hnew]
    exact ⟨.ref _, _, I.lnew (t' := s.toks) (r.rep k.toNat) (by rw [PyProof.Rows.lm_len_rep_flat, Nat.mul_comm]; exact hz), rfl, q _ I.fresh⟩
theorem dp_rep {vs : List V} {ds : List PyData} (h : DpAll K H vs ds) : ∀ n : Nat, DpAll K H (List.replicate n vs).flatten (List.replicate n ds).flatten
  | 0 => .nil
  | n + 1 => by
    rw [List.replicate_succ, List.replicate_succ, List.flatten_cons, List.flatten_cons]
    exact h.append (dp_rep h n)
theorem evn_rep {k : Int} (ha : Ev K ta ρ M (.dat (.list ds)) M1) (hb : Ev K tb ρ M1 (.dat (.int k)) M2) (hk : k ≤ 1000) (hz : ds.length ≤ 1000) (h0 : -1000 ≤ k) : EvN K (tOp rRepL ta tb) ρ M (List.replicate k.toNat ds).flatten M2 := evn_op ha hb fun F L σ H x y o hx hy Q q => by
  obtain ⟨a, xs, rfl, h1, h2⟩ := list_of hx
  refine ⟨a, k, xs, rfl, int_of hy, Rd.mono (hid_le _ _) h1, by omega, by omega, ?_, fun p hp => q p _ hp (dp_rep h2 _)⟩
  rw [h2.length]
  exact Nat.le_trans (Nat.mul_le_mul hz (show k.toNat ≤ 1000 by omega)) (by decide)
end
end Wm

namespace Wm
open PySem L2
section
variable {K : PySem.W.Frag} {F F' H H' H0 H1 : Hp} {L : List Addr} {σ : L2.St} {ρ ρ' : List Sl} {M M' M1 M2 M3 : Ms}
variable {te ta tb tc ti : TE} {tt : TT} {tr : TA} {s s1 s2 : Sl} {ss : List Sl} {d d1 d2 : PyData} {ds es : List PyData} {D : Ends} {tu tw : TS} {g : TG}
/-! ### statements -/
theorem s_asg {i : Nat} (h : Ev K te ρ M s M1) (k : ∀ σ H, Ok K F L σ H (ρ.set i s) M1 → D.nx σ H) (o : Ok K F L σ H ρ M) : tAsg te (gName i) D σ H := h F L σ H o _ fun v H1 o1 e1 a1 x1 => k _ _ (o1.set (by rw [e1]; exact x1))
/-- a name for a new list that will change -/
theorem s_asgN {i : Nat} (h : EvN K te ρ M ds M1) (k : ∀ p σ H, Ok K F L σ H (ρ.set i (.loc (.ref p))) (M1 ++ [(p, .lst ds)]) → D.nx σ H) (o : Ok K F L σ H ρ M) : tAsg te (gName i) D σ H := h F L σ H o _ fun p vs H1 hp o1 e1 a1 h1 h2 => by
  have hm : p ∉ ad M1 := by rw [e1]; exact mem_ad_of (Q := fun _ => True) o hp
  have hf : F p = none := o.fr.free hp
  refine k p _ _ (Ok.set (Ok.add o1.lift ?_ ?_ hm hf ?_) rfl)
  · exact o1.sl
  · exact o1.ob
  · exact ⟨vs, h1, by rw [e1]; exact h2⟩
theorem s_drop (h : Ev K te ρ M s M1) (k : ∀ σ H, Ok K F L σ H ρ M1 → D.nx σ H) (o : Ok K F L σ H ρ M) : tDrop te D σ H := h F L σ H o _ fun v H1 o1 e1 a1 x1 => k _ _ o1
theorem s_ret (h : Ev K te ρ M s M1) (k : ∀ v H1, Ok K F L σ H1 ρ M1 → SlOk K (hid (L ++ ad M1) H1) v s → D.rt v H1) (o : Ok K F L σ H ρ M) : tRet te D σ H := h F L σ H o _ fun v H1 o1 e1 a1 x1 => k v _ o1 (by rw [e1]; exact x1)
theorem s_retN (h : EvN K te ρ M ds M1) (k : ∀ p vs H1, F p = none → p ∉ L ++ ad M1 → Ok K F L σ H1 ρ M1 → H1 p = some (.lst vs) → DpAll K (hid (p :: (L ++ ad M1)) H1) vs ds → D.rt (.ref p) H1) (o : Ok K F L σ H ρ M) : tRet te D σ H := h F L σ H o _ fun p vs H1 hp o1 e1 a1 h1 h2 => k p vs H1 (o.fr.free hp) (by rw [e1]; exact o.fresh hp) o1.lift h1 (by rw [e1]; exact h2)
theorem s_if {b : Bool} (h : EvT K tt ρ M b M1) (h1 : b = true → ∀ H, Ok K F L σ H ρ M1 → tu D σ H) (h2 : b = false → ∀ H, Ok K F L σ H ρ M1 → tw D σ H) (o : Ok K F L σ H ρ M) : tIfS tt tu tw D σ H := h F L σ H o _ fun H1 o1 e1 a1 => by
  cases b with
  | true => exact h1 rfl H1 o1
  | false => exact h2 rfl H1 o1
theorem s_ifT (h : EvT K tt ρ M true M1) (h1 : ∀ H, Ok K F L σ H ρ M1 → tu D σ H) (o : Ok K F L σ H ρ M) : tIfS tt tu tw D σ H := s_if h (fun _ => h1) (fun z => nomatch z) o
theorem s_ifF (h : EvT K tt ρ M false M1) (h1 : ∀ H, Ok K F L σ H ρ M1 → tw D σ H) (o : Ok K F L σ H ρ M) : tIfS tt tu tw D σ H := s_if h (fun z => nomatch z) (fun _ => h1) o
/-- the ways of t meet again ahead of u -/
theorem s_seqJ {tu tw : TS} (J : List Sl → Ms → Prop) (k : ∀ ρ M, J ρ M → ∀ σ H, Ok K F L σ H ρ M → tw D σ H) (h : (∀ ρ M, J ρ M → ∀ σ H, Ok K F L σ H ρ M → tw D σ H) → tu { D with nx := tw D } σ H) : tSeq tu tw D σ H := h k
/-! ### objects that change: xs.append(e), xs[i] = e -/
theorem ad_set {M : Ms} {j : Nat} {p : Addr} {x y : MO} (hj : M[j]? = some (p, x)) : ad (M.set j (p, y)) = ad M := by
  apply List.ext_getElem?; intro i
  simp only [ad, List.getElem?_map, List.getElem?_set]
  by_cases e : j = i
  · subst e
    have hl : j < M.length := (List.getElem?_eq_some_iff.mp hj).1
    rw [if_pos rfl, if_pos hl, hj] <;> rfl
  · rw [if_neg e]
theorem mem_ad {M : Ms} {j : Nat} {p : Addr} {x : MO} (hj : M[j]? = some (p, x)) : p ∈ ad M := List.mem_map.mpr ⟨_, List.mem_of_getElem? hj, rfl⟩
theorem live_upd (o : Ok K F L σ H ρ M) {p : Addr} {x : HO} : ∀ a, a ∈ L → a ≠ p → upd H p x a ≠ none := fun a ha hn => by rw [upd_ne hn]; exact o.lv a ha
theorem Ok.changeL (o : Ok K F L σ H ρ M) {j : Nat} {p : Addr} {x : MO} {vs : List V} {es : List PyData} (hj : M[j]? = some (p, x)) (hv : DpAll K (hid (L ++ ad M) H) vs es) : Ok K F L σ (upd H p (.lst vs)) ρ (M.set j (p, .lst es)) :=
  o.change hj (same_hid_upd (by simp)) ⟨vs, upd_same, by rw [hid_upd (List.mem_append_right _ (mem_ad hj))]; exact hv⟩ (live_upd o)
theorem s_app {p : Addr} {j : Nat} {ds0 : List PyData} (ha : Ev K ta ρ M (.loc (.ref p)) M) (h : Ev K te ρ M (.dat d) M1) (hj0 : M[j]? = some (p, .lst ds0)) (hj : M1[j]? = some (p, .lst ds)) (hz : ds.length < 1000000) (k : ∀ σ H, Ok K F L σ H ρ (M1.set j (p, .lst (ds ++ [d]))) → D.nx σ H) (o : Ok K F L σ H ρ M) :
    tDrop (tBM K "list" rAppend ta (tCons te tNil)) D σ H := ha F L σ H o _ fun x H1 o1 e1 a1 x1 => by
  have ex : x = .ref p := x1
  subst ex
  obtain ⟨vs0, h0, _⟩ := o1.ob _ (List.mem_of_getElem? hj0)
  refine ⟨.inl ⟨rfl, vs0, SqL.of h0⟩, h F L σ H1 o1 _ fun y H2 o2 e2 a2 y2 => ?_⟩
  obtain ⟨vs, h1, h2⟩ := o2.ob _ (List.mem_of_getElem? hj)
  refine ⟨p, vs, y, rfl, rfl, h1, by rw [h2.length]; exact line_lt hz, ?_⟩
  refine k _ _ (o2.changeL hj (h2.append (.cons ?_ .nil)))
  rw [e2]; exact y2
/-- xs[i] = e -/
theorem s_setL {p : Addr} {j n : Nat} {i : Int} (h : Ev K te ρ M (.dat d) M1) (ha : Ev K ta ρ M1 (.loc (.ref p)) M2) (hi : Ev K ti ρ M2 (.dat (.int i)) M3) (hj : M3[j]? = some (p, .lst ds)) (hn : ixN ds.length i = some n) (k : ∀ σ H, Ok K F L σ H ρ (M3.set j (p, .lst (ds.set n d))) → D.nx σ H) (o : Ok K F L σ H ρ M) :
    tAsg te (gSub ta ti rSetL) D σ H := h F L σ H o _ fun y H1 o1 e1 a1 y1 => ha F L σ H1 o1 _ fun x H2 o2 e2 a2 x2 => hi F L σ H2 o2 _ fun w H3 o3 e3 a3 w3 => by
  have ex : x = .ref p := x2
  subst ex
  obtain ⟨vs, h1, h2⟩ := o3.ob _ (List.mem_of_getElem? hj)
  refine ⟨p, vs, i, n, rfl, int_of w3, h1, by rw [h2.length]; exact hn, ?_⟩
  refine k _ _ (o3.changeL hj (DpAll.set ?_ n h2))
  have y3 : SlOk K (hid (L ++ ad M) H3) y (.dat d) := later (e2.trans e1) a3 (later e1 a2 y1)
  rw [show ad M3 = ad M from e3.trans (e2.trans e1)]; exact y3
/-! ### targets of two and more names -/
theorem g_tup {Qc : L2.St → Hp → Prop} {n : Nat} {t : TGs} {v : V} (h : Dp K H v (.tuple ds)) (hl : ds.length = n) (k : ∀ vs, DpAll K H vs ds → t vs σ H0 Qc) (s : Same H H0) : gTup K n t v σ H0 Qc := by
  obtain ⟨a, xs, rfl, h1, h2⟩ := tup_of (K := K) (H := H) (v := v) (ds := ds) h
  exact ⟨a, xs, rfl, SqT.mono s h1, h2.length.trans hl, k xs h2⟩
theorem g_cons {Qc : L2.St → Hp → Prop} {t : TG} {u : TGs} {v : V} {r : List V} (h : t v σ H fun σ' H' => u r σ' H' Qc) : gCons t u (v :: r) σ H Qc := ⟨v, r, rfl, h⟩
theorem g_nil {Qc : L2.St → Hp → Prop} (h : Qc σ H) : gNil [] σ H Qc := ⟨rfl, h⟩
/-- a, b = e, e a tuple of two data -/
theorem s_asg2 {i j : Nat} (h : Ev K te ρ M (.dat (.tuple [d1, d2])) M1) (k : ∀ σ H, Ok K F L σ H ((ρ.set i (.dat d1)).set j (.dat d2)) M1 → D.nx σ H) (o : Ok K F L σ H ρ M) : tAsg te (gTup K 2 (gCons (gName i) (gCons (gName j) gNil))) D σ H := h F L σ H o _ fun v H1 o1 e1 a1 x1 => by
  refine g_tup x1 rfl (fun vs hv => ?_) (hid_le _ _)
  cases hv with
  | cons h1 hv =>
    cases hv with
    | cons h2 hv =>
      cases hv
      refine g_cons (g_cons (g_nil (k _ _ (Ok.set (Ok.set o1 ?_) ?_))))
      · show Dp K _ _ _; rw [e1]; exact h1
      · show Dp K _ _ _; rw [e1]; exact h2
theorem s_par {i j : Nat} {ta : TA} (h : EvA K ta ρ M [s1, s2] M1) (k : ∀ σ H, Ok K F L σ H ((ρ.set i s1).set j s2) M1 → D.nx σ H) (o : Ok K F L σ H ρ M) : tPar i j ta D σ H := h F L σ H o _ fun vs H1 o1 e1 a1 x1 => by
  obtain ⟨v, w, rfl, h1, h2⟩ := two_of x1
  exact ⟨v, w, rfl, k _ _ (Ok.set (Ok.set o1 (by rw [e1]; exact h1)) (by rw [e1]; exact h2))⟩
/-! ### calls -/
/-- a def that changes nothing of what stands: R of the arguments' data and the answer's -/
def spP (K : PySem.W.Frag) (R : List PyData → PyData → Prop) : Sp := fun vs H Q _ => ∃ L ds r, (∀ p ∈ L, H p ≠ none) ∧ DpAll K (hid L H) vs ds ∧ R ds r ∧ ∀ v H1, Same H H1 → Dp K (hid L H1) v r → Q v H1
/-- .. and hands back a new list -/
def spN (K : PySem.W.Frag) (R : List PyData → List PyData → Prop) : Sp := fun vs H Q _ => ∃ L ds rs, (∀ p ∈ L, H p ≠ none) ∧ DpAll K (hid L H) vs ds ∧ R ds rs ∧ ∀ p us H1, Same H H1 → H p = none → H1 p = some (.lst us) → DpAll K (hid (p :: L) H1) us rs → Q (.ref p) H1
/-- its first argument is an object that it changes -/
def spM (K : PySem.W.Frag) (R : MO → List PyData → PyData → MO → Prop) : Sp := fun vs H Q _ => ∃ L p us x ds r x', vs = .ref p :: us ∧ (∀ q ∈ L, H q ≠ none) ∧ p ∈ L ∧ MOk K (hid L H) H p x ∧ DpAll K (hid L H) us ds ∧ R x ds r x' ∧
  ∀ v H1, Same (hid [p] H) H1 → MOk K (hid L H1) H1 p x' → Dp K (hid L H1) v r → Q v H1
/-- .. and it hands back a new list -/
def spMN (K : PySem.W.Frag) (R : MO → List PyData → List PyData → MO → Prop) : Sp := fun vs H Q _ => ∃ L p us x ds rs x', vs = .ref p :: us ∧ (∀ q ∈ L, H q ≠ none) ∧ p ∈ L ∧ MOk K (hid L H) H p x ∧ DpAll K (hid L H) us ds ∧ R x ds rs x' ∧
  ∀ q ws H1, Same (hid [p] H) H1 → H q = none → MOk K (hid (q :: L) H1) H1 p x' → H1 q = some (.lst ws) → DpAll K (hid (q :: L) H1) ws rs → Q (.ref q) H1
theorem ev_call {R : List PyData → PyData → Prop} {E : XK} {r : PyData} (ha : EvA K tr ρ M (ds.map Sl.dat) M1) (hR : R ds r) : Ev K (tCall (spP K R) [] E tr) ρ M (.dat r) M1 := fun F L σ H o Q q => ha F L σ H o _ fun vs H1 o1 e1 a1 x1 => by
  refine ⟨L ++ ad M, ds, r, fun p hp => o1.there (by rw [e1]; exact hp), by rw [List.append_nil]; exact dpAll_of x1, hR, fun v H2 s2 h2 => ?_⟩
  exact q v H2 (o1.mono s2) e1 (a1.trans s2) h2
theorem same_layN {X : List Addr} {p : Addr} (s : Same H H1) (hp : H p = none) : Same (hid X H) (hid (p :: X) H1) := fun a x e => by
  obtain ⟨n, e2⟩ := hid_some e
  rw [hid_out (by rw [List.mem_cons]; rintro (z | z); exact ne_of_none e2 hp z; exact n z)]; exact s _ _ e2
theorem Ok.layN (o1 : Ok K F L σ H ρ M) {p : Addr} {us : List V} (s2 : Same H H1) (hp : H p = none) (h1 : H1 p = some (.lst us)) : Ok K F (p :: L) σ H1 ρ M where
  sl := Paired.mapP o1.sl fun _ _ q => q.mono (same_layN s2 hp)
  ob := fun y hy => by
    obtain ⟨z, e⟩ := (o1.ob y hy).there
    exact (o1.ob y hy).mono (same_layN s2 hp) ((s2 _ _ e).trans e.symm)
  nd := o1.nd
  fr := o1.fr.trans s2
  fn := o1.fn
  lv := fun a ha z => by
    rcases List.mem_cons.mp ha with e | e
    · rw [e, h1] at z; cases z
    · exact (o1.mono s2).lv a e z
theorem evn_call {R : List PyData → List PyData → Prop} {E : XK} {rs : List PyData} (ha : EvA K tr ρ M (ds.map Sl.dat) M1) (hR : R ds rs) : EvN K (tCall (spN K R) [] E tr) ρ M rs M1 := fun F L σ H o Q q => ha F L σ H o _ fun vs H1 o1 e1 a1 x1 => by
  refine ⟨L ++ ad M, ds, rs, fun p hp => o1.there (by rw [e1]; exact hp), by rw [List.append_nil]; exact dpAll_of x1, hR, fun p us H2 s2 hp h1 h2 => ?_⟩
  exact q p us H2 (back_none o o1 e1 a1 hp) (o1.layN s2 hp h1) e1 (a1.trans s2) h1 h2
theorem ev_callM {R : MO → List PyData → PyData → MO → Prop} {E : XK} {r : PyData} {p : Addr} {j : Nat} {x x' : MO} (ha : EvA K tr ρ M (.loc (.ref p) :: ds.map Sl.dat) M1) (hj : M1[j]? = some (p, x)) (hR : R x ds r x') : Ev K (tCall (spM K R) [] E tr) ρ M (.dat r) (M1.set j (p, x')) := fun F L σ H o Q q => ha F L σ H o _ fun vs H1 o1 e1 a1 x1 => by
  cases x1 with
  | cons hp0 x1 =>
    have ep : _ = V.ref p := hp0
    subst ep
    have hpm : p ∈ ad M1 := mem_ad hj
    refine ⟨L ++ ad M1, p, _, x, ds, r, x', by rw [List.append_nil], fun a ha => o1.there ha, List.mem_append_right _ hpm, o1.ob _ (List.mem_of_getElem? hj), dpAll_of (by rw [e1]; exact x1), hR, fun v H2 s2 h2 h3 => ?_⟩
    have o2 : Ok K F L σ H2 ρ (M1.set j (p, x')) := o1.change hj s2 h2 fun a ha hn z => by
      cases e : H1 a with
      | none => exact o1.lv a ha e
      | some y => rw [s2 a y (by rw [hid_out (by simpa using hn)]; exact e)] at z; cases z
    refine q v H2 o2 ((ad_set hj).trans e1) (chain2 e1 a1 fun a y e => s2 a y (hid_sub (fun b hb => ?_) _ _ e)) (by rw [← e1]; exact h3)
    have e3 : b = p := by simpa using hb
    rw [e3]; exact hpm
theorem evn_callM {R : MO → List PyData → List PyData → MO → Prop} {E : XK} {rs : List PyData} {p : Addr} {j : Nat} {x x' : MO} (ha : EvA K tr ρ M (.loc (.ref p) :: ds.map Sl.dat) M1) (hj : M1[j]? = some (p, x)) (hR : R x ds rs x') : EvN K (tCall (spMN K R) [] E tr) ρ M rs (M1.set j (p, x')) := fun F L σ H o Q q => ha F L σ H o _ fun vs H1 o1 e1 a1 x1 => by
  cases x1 with
  | cons hp0 x1 =>
    have ep : _ = V.ref p := hp0
    subst ep
    have hpm : p ∈ ad M1 := mem_ad hj
    refine ⟨L ++ ad M1, p, _, x, ds, rs, x', by rw [List.append_nil], fun a ha => o1.there ha, List.mem_append_right _ hpm, o1.ob _ (List.mem_of_getElem? hj), dpAll_of (by rw [e1]; exact x1), hR, fun l ws H2 s2 hl h2 h1 h3 => ?_⟩
    have hlp : l ≠ p := fun z => o1.there (List.mem_append_right L hpm) (by rw [← z]; exact hl)
    have vis : Same (hid (L ++ ad M1) H1) (hid (l :: (L ++ ad M1)) H2) := fun a y e => by
      obtain ⟨n, e2⟩ := hid_some e
      rw [hid_out (by rw [List.mem_cons]; rintro (z | z); exact ne_of_none e2 hl z; exact n z)]
      exact s2 _ _ (by rw [hid_out fun z => n (by have e3 : a = p := by simpa using z
                                                  rw [e3]; exact List.mem_append_right _ hpm)]; exact e2)
    have live : ∀ a, a ∈ L → a ≠ p → H2 a ≠ none := fun a ha hn z => by
      cases e : H1 a with
      | none => exact o1.lv a ha e
      | some y => rw [s2 a y (by rw [hid_out (by simpa using hn)]; exact e)] at z; cases z
    have o2 : Ok K F (l :: L) σ H2 ρ (M1.set j (p, x')) :=
      { sl := by rw [ad_set hj]; exact Paired.mapP o1.sl fun _ _ q => q.mono vis
        ob := fun y hy => by
          show MOk K (hid (l :: (L ++ ad (M1.set j (p, x')))) H2) H2 y.1 y.2
          rw [ad_set hj]
          obtain ⟨i, hi⟩ := List.mem_iff_getElem?.mp hy
          rw [List.getElem?_set] at hi
          by_cases e : j = i
          · rw [if_pos e] at hi
            split at hi
            · cases hi; exact h2
            · cases hi
          · rw [if_neg e] at hi
            have hzm : y ∈ M1 := List.mem_of_getElem? hi
            have ne : y.1 ≠ p := fun q => by
              have h1 : (ad M1)[i]? = some p := by simp only [ad, List.getElem?_map, hi, Option.map_some, q]
              have h2 : (ad M1)[j]? = some p := by simp only [ad, List.getElem?_map, hj, Option.map_some]
              exact e (((List.getElem?_inj (List.getElem?_eq_some_iff.mp h2).1 o1.nd).mp (h2.trans h1.symm)))
            obtain ⟨x', e'⟩ := (o1.ob y hzm).there
            refine (o1.ob y hzm).mono vis ?_
            rw [e']; exact s2 _ _ (by rw [hid_out (by simpa using ne)]; exact e')
        nd := by rw [ad_set hj]; exact o1.nd
        fr := fun a y e => s2 a y (by
          rw [hid_out]
          · exact o1.fr a y e
          · intro z
            have e3 : a = p := by simpa using z
            rw [e3, o1.fn _ hpm] at e; cases e)
        fn := fun a ha => o1.fn a (by rw [ad_set hj] at ha; exact ha)
        lv := fun a ha z => by
          rcases List.mem_cons.mp ha with e | e
          · rw [e, h1] at z; cases z
          · by_cases hn : a = p
            · obtain ⟨y, e3⟩ := h2.there
              rw [hn, e3] at z; cases z
            · exact live a e hn z }
    refine q l ws H2 (back_none o o1 e1 a1 hl) o2 ((ad_set hj).trans e1) (chain2 e1 a1 fun a y e => s2 a y (hid_sub (fun b hb => ?_) _ _ e)) h1 (by rw [← e1]; exact h3)
    have e3 : b = p := by simpa using hb
    rw [e3]; exact hpm
end
end Wm

namespace Wm
open PySem L2
section
variable {K : PySem.W.Frag} {F F' H H' H0 H1 : Hp} {L : List Addr} {σ σ' : L2.St} {ρ ρ' : List Sl} {M M' M1 M2 M3 Mn : Ms}
variable {te ta tb tc ti : TE} {tt : TT} {tr : TA} {s s1 s2 : Sl} {ss : List Sl} {d d1 d2 : PyData} {ds es : List PyData} {D : Ends} {tu tw : TS} {g : TG} {wi : TI} {n : Nat} {item : Nat → PyData}
/-! ### what is walked -/
def Walk (K : PySem.W.Frag) (F : Hp) (L : List Addr) (J : It) (n : Nat) (item : Nat → PyData) : Prop := ∀ i H, Same F H →
  (i < n → J.go i H ∧ ∀ x H', J.yld i H x H' → Same H H' ∧ ∀ Y : List Addr, (∀ a ∈ Y, (a ∈ L ∨ F a = none) ∧ H a ≠ none) → Dp K (hid Y H') x (item i)) ∧ (n ≤ i → J.stop i H)
def EvI (K : PySem.W.Frag) (wi : TI) (ρ : List Sl) (M : Ms) (n : Nat) (item : Nat → PyData) (M' : Ms) : Prop := ∀ F L σ H, Ok K F L σ H ρ M → ∀ R : It → Hp → Prop, (∀ J H1, Ok K F L σ H1 ρ M' → ad M' = ad M → Same (hid (ad M) H) H1 → Walk K (hid (ad M') H1) L J n item → R J H1) → wi σ H R
theorem hid_of {X : List Addr} {a : Addr} {o : HO} (n : a ∉ X) (h : H a = some o) : hid X H a = some o := by rw [hid_out n]; exact h
theorem vis_Y {X : List Addr} (s : Same (hid X H1) H') {Y : List Addr} (hY : ∀ a ∈ Y, a ∈ L ∨ hid X H1 a = none) : Same (hid (L ++ X) H1) (hid Y H') := fun a y e => by
  obtain ⟨n, e2⟩ := hid_some e
  have nX : a ∉ X := fun z => n (List.mem_append_right _ z)
  have e3 := hid_of nX e2
  rw [hid_out fun z => by
    rcases hY a z with q | q
    · exact n (List.mem_append_left _ q)
    · rw [e3] at q; cases q]
  exact s _ _ e3
theorem rd_same {a : Addr} {o : HO} (h : Rd H a o) (s : ∀ x, H a = some x → H' a = some x) : Rd H' a o := h.imp (s _) fun ⟨o, h⟩ => ⟨o, s _ h⟩
theorem ei_list (h : Ev K te ρ M (.dat (.list ds)) M1) : EvI K (iList K te) ρ M ds.length (fun i => ds.getD i .none) M1 := fun F L σ H o R q => h F L σ H o _ fun v H1 o1 e1 a1 x1 => by
  obtain ⟨a, xs, rfl, h1, h2⟩ := list_of x1
  rw [← e1] at h1 h2
  have na : a ∉ L ++ ad M1 := by
    rcases h1 with h1 | ⟨_, h1⟩
    · exact (hid_some h1).1
    · exact (hid_some h1).1
  have there : ∀ H2, Same (hid (ad M1) H1) H2 → SqL K H2 a xs := fun H2 s2 => .inl (rd_same (Rd.mono (hid_le _ _) h1) fun x e => s2 _ _ (hid_of (fun z => na (List.mem_append_right _ z)) e))
  refine ⟨a, rfl, ⟨xs, there H1 (hid_le _ _)⟩, q _ H1 o1 e1 a1 fun i H2 s2 => ⟨fun hi => ?_, fun hi => ⟨xs, there H2 s2, by rw [h2.length]; exact hi⟩⟩⟩
  have hx : i < xs.length := by rw [h2.length]; exact hi
  refine ⟨⟨xs, xs[i], there H2 s2, List.getElem?_eq_getElem hx⟩, fun x H3 hy => ?_⟩
  obtain ⟨rfl, fx⟩ := hy
  refine ⟨Same.refl _, fun Y hY => ?_⟩
  obtain ⟨d, hd, hdp⟩ := h2.getV (fx xs (there _ s2))
  dsimp only
  rw [List.getD_eq_getElem?_getD, hd]
  exact Dp.mono (vis_Y s2 fun a ha => (hY a ha).1) hdp
theorem ei_tup (h : Ev K te ρ M (.dat (.tuple ds)) M1) : EvI K (iTup K te) ρ M ds.length (fun i => ds.getD i .none) M1 := fun F L σ H o R q => h F L σ H o _ fun v H1 o1 e1 a1 x1 => by
  obtain ⟨a, xs, rfl, h1, h2⟩ := tup_of x1
  rw [← e1] at h1 h2
  have there : ∀ H2, Same (hid (ad M1) H1) H2 → SqT K H2 a xs := fun H2 s2 => SqT.mono s2 (SqT.mono (hid_sub fun _ z => List.mem_append_right _ z) h1)
  refine ⟨a, rfl, ⟨xs, there H1 (hid_le _ _)⟩, q _ H1 o1 e1 a1 fun i H2 s2 => ⟨fun hi => ?_, fun hi => ⟨xs, there H2 s2, by rw [h2.length]; exact hi⟩⟩⟩
  have hx : i < xs.length := by rw [h2.length]; exact hi
  refine ⟨⟨xs, xs[i], there H2 s2, List.getElem?_eq_getElem hx⟩, fun x H3 hy => ?_⟩
  obtain ⟨rfl, fx⟩ := hy
  refine ⟨Same.refl _, fun Y hY => ?_⟩
  obtain ⟨d, hd, hdp⟩ := h2.getV (fx xs (there _ s2))
  dsimp only
  rw [List.getD_eq_getElem?_getD, hd]
  exact Dp.mono (vis_Y s2 fun a ha => (hY a ha).1) hdp
theorem walk_rng {F : Hp} {lo : Int} {n : Nat} : Walk K F L (Itr lo n) n (fun i => .int (lo + i)) := fun i H s => ⟨fun hi => ⟨hi, fun x H' hy => by
  obtain ⟨rfl, rfl⟩ := hy
  exact ⟨Same.refl _, fun Y _ => .int _⟩⟩, fun hi => hi⟩
theorem ei_rng1 {j : Int} (h : EvA K tr ρ M [.dat (.int j)] M1) (h1 : -(2 ^ 62) ≤ j := by omega) (h2 : j < 2 ^ 62 := by omega) : EvI K (iRng1 tr) ρ M j.toNat (fun i => .int (i : Nat)) M1 := fun F L σ H o R q => h F L σ H o _ fun vs H1 o1 e1 a1 x1 => by
  obtain ⟨v, rfl, hv⟩ := one_of x1
  rw [int_of hv]
  refine ⟨j, rfl, h1, h2, q _ H1 o1 e1 a1 ?_⟩
  have w := walk_rng (K := K) (F := hid (ad M1) H1) (L := L) (lo := 0) (n := j.toNat)
  simpa only [Int.zero_add] using w
theorem ei_rng2 {i j : Int} (h : EvA K tr ρ M [.dat (.int i), .dat (.int j)] M1) (hb : -(2 ^ 62) ≤ i ∧ i < 2 ^ 62 ∧ -(2 ^ 62) ≤ j ∧ j < 2 ^ 62 := by omega) : EvI K (iRng2 tr) ρ M (j - i).toNat (fun k => .int (i + (k : Nat))) M1 := fun F L σ H o R q => h F L σ H o _ fun vs H1 o1 e1 a1 x1 => by
  obtain ⟨v, w, rfl, hv, hw⟩ := two_of x1
  rw [int_of hv, int_of hw]
  exact ⟨i, j, rfl, hb, q _ H1 o1 e1 a1 walk_rng⟩
theorem rngC_neg {i j : Int} (hb : -(2 ^ 62) ≤ i ∧ i < 2 ^ 62 ∧ -(2 ^ 62) ≤ j ∧ j < 2 ^ 62) : RgC i j (-1) (i - j).toNat := RgC.neg hb.1 hb.2.1 hb.2.2.1 hb.2.2.2
theorem ei_rng3 {i j c : Int} {n : Nat} (h : EvA K tr ρ M [.dat (.int i), .dat (.int j), .dat (.int c)] M1) (hr : RgC i j c n) : EvI K (iRng3 tr) ρ M n (fun k => .int (i + (k : Nat) * c)) M1 := fun F L σ H o R q => h F L σ H o _ fun vs H1 o1 e1 a1 x1 => by
  cases x1 with
  | cons hv x1 =>
    obtain ⟨v, w, rfl, hw, hu⟩ := two_of x1
    rw [int_of hv, int_of hw, int_of hu]
    refine ⟨i, j, c, n, rfl, hr, q _ H1 o1 e1 a1 fun k H2 s2 => ⟨fun hk => ⟨hk, fun x H3 hy => ?_⟩, fun hk => hk⟩⟩
    obtain ⟨rfl, rfl⟩ := hy
    exact ⟨Same.refl _, fun Y _ => .int _⟩
theorem new_tup {Y : List Addr} {T : Addr} {xs : List V} {ds : List PyData} (hT : H T = none) (hY : ∀ a ∈ Y, H a ≠ none) (h : DpAll K (hid Y H) xs ds) : Dp K (hid Y (upd H T (.tup xs))) (.ref T) (.tuple ds) :=
  .tup (by rw [hid_out fun z => hY T z hT]; exact upd_same) (DpAll.mono (hid_mono (same_new hT)) h)
theorem ei_enum (h : EvA K tr ρ M [.dat (.list ds)] M1) : EvI K (iEnum K tr) ρ M ds.length (fun i => .tuple [.int (i : Nat), ds.getD i .none]) M1 := fun F L σ H o R q => h F L σ H o _ fun vs H1 o1 e1 a1 x1 => by
  obtain ⟨v, rfl, hv⟩ := one_of x1
  obtain ⟨a, xs, rfl, h1, h2⟩ := list_of hv
  rw [← e1] at h1 h2
  have na : a ∉ L ++ ad M1 := by
    rcases h1 with h1 | ⟨_, h1⟩
    · exact (hid_some h1).1
    · exact (hid_some h1).1
  have there : ∀ H2, Same (hid (ad M1) H1) H2 → SqL K H2 a xs := fun H2 s2 => .inl (rd_same (Rd.mono (hid_le _ _) h1) fun x e => s2 _ _ (hid_of (fun z => na (List.mem_append_right _ z)) e))
  refine ⟨a, xs, rfl, there H1 (hid_le _ _), q _ H1 o1 e1 a1 fun i H2 s2 => ⟨fun hi => ?_, fun hi => ⟨xs, there H2 s2, by rw [h2.length]; exact hi⟩⟩⟩
  have hx : i < xs.length := by rw [h2.length]; exact hi
  refine ⟨⟨xs, xs[i], there H2 s2, List.getElem?_eq_getElem hx⟩, fun x H3 hy => ?_⟩
  obtain ⟨T, y, rfl, nT, rfl, fx⟩ := hy
  refine ⟨same_new nT, fun Y hY => ?_⟩
  obtain ⟨d, hd, hdp⟩ := h2.getV (fx xs (there _ s2))
  dsimp only
  rw [List.getD_eq_getElem?_getD, hd]
  exact new_tup nT (fun a ha => (hY a ha).2) (.cons (.int _) (.cons (Dp.mono (vis_Y s2 fun a ha => (hY a ha).1) hdp) .nil))
theorem ei_zip (h : EvA K tr ρ M [.dat (.list ds), .dat (.list es)] M1) : EvI K (iZip K tr) ρ M (min ds.length es.length) (fun i => .tuple [ds.getD i .none, es.getD i .none]) M1 := fun F L σ H o R q => h F L σ H o _ fun vs H1 o1 e1 a1 x1 => by
  obtain ⟨v, w, rfl, hv, hw⟩ := two_of x1
  obtain ⟨a, xs, rfl, h1, h2⟩ := list_of hv
  obtain ⟨b, ys, rfl, h3, h4⟩ := list_of hw
  rw [← e1] at h1 h2 h3 h4
  have nn : ∀ {a : Addr} {xs : List V}, Rd (hid (L ++ ad M1) H1) a (.lst xs) → a ∉ L ++ ad M1 := fun h1 => by
    rcases h1 with h1 | ⟨_, h1⟩
    · exact (hid_some h1).1
    · exact (hid_some h1).1
  have there : ∀ {a : Addr} {xs : List V}, Rd (hid (L ++ ad M1) H1) a (.lst xs) → ∀ H2, Same (hid (ad M1) H1) H2 → SqL K H2 a xs := fun h1 H2 s2 => .inl (rd_same (Rd.mono (hid_le _ _) h1) fun x e => s2 _ _ (hid_of (fun z => nn h1 (List.mem_append_right _ z)) e))
  refine ⟨a, b, xs, ys, rfl, there h1 H1 (hid_le _ _), there h3 H1 (hid_le _ _), q _ H1 o1 e1 a1 fun i H2 s2 => ⟨fun hi => ?_, fun hi => ⟨xs, ys, there h1 H2 s2, there h3 H2 s2, by rw [h2.length, h4.length]; omega⟩⟩⟩
  have hx : i < xs.length := by rw [h2.length]; omega
  have hy : i < ys.length := by rw [h4.length]; omega
  refine ⟨⟨xs, ys, xs[i], ys[i], there h1 H2 s2, there h3 H2 s2, List.getElem?_eq_getElem hx, List.getElem?_eq_getElem hy⟩, fun x H3 hyy => ?_⟩
  obtain ⟨T, y, z, rfl, nT, rfl, fx, fy⟩ := hyy
  refine ⟨same_new nT, fun Y hY => ?_⟩
  obtain ⟨d, hd, hdp⟩ := h2.getV (fx xs (there h1 _ s2))
  obtain ⟨e, he, hep⟩ := h4.getV (fy ys (there h3 _ s2))
  dsimp only
  rw [List.getD_eq_getElem?_getD, hd, List.getD_eq_getElem?_getD, he]
  exact new_tup nT (fun a ha => (hY a ha).2) (.cons (Dp.mono (vis_Y s2 fun a ha => (hY a ha).1) hdp) (.cons (Dp.mono (vis_Y s2 fun a ha => (hY a ha).1) hep) .nil))
/-! ### where the items go -/
/-- the target's slots js; up: what is told of the slots behind it -/
def EvG (K : PySem.W.Frag) (g : TG) (d : PyData) (js : List Nat) (up : List Sl → List Sl) : Prop := ∀ F L σ H ρ M v, Ok K F L σ H ρ M → Dp K (hid (L ++ ad M) H) v d → ∀ Q : L2.St → Hp → Prop, (∀ σ', Ok K F L σ' H (up ρ) M → (∀ k, k ∉ js → σ'[k]? = σ[k]?) → σ'.length = σ.length → Q σ' H) → g v σ H Q
theorem eg_name {i : Nat} : EvG K (gName i) d [i] (fun ρ => ρ.set i (.dat d)) := fun F L σ H ρ M v o h Q q => q _ (o.set h) (fun k hk => by
  rw [List.getElem?_set_ne]
  intro e; exact hk (by simp [e])) (List.length_set ..)
theorem eg_two {i j : Nat} : EvG K (gTup K 2 (gCons (gName i) (gCons (gName j) gNil))) (.tuple [d1, d2]) [i, j] (fun ρ => (ρ.set i (.dat d1)).set j (.dat d2)) := fun F L σ H ρ M v o h Q q => by
  refine g_tup h rfl (fun vs hv => ?_) (hid_le _ _)
  cases hv with
  | cons h1 hv =>
    cases hv with
    | cons h2 hv =>
      cases hv
      refine g_cons (g_cons (g_nil (q _ (Ok.set (s := .dat d2) (Ok.set (s := .dat d1) o h1) h2) (fun k hk => ?_) (by rw [List.length_set, List.length_set]))))
      have n1 : i ≠ k := fun e => hk (by simp [e])
      have n2 : j ≠ k := fun e => hk (by simp [e])
      rw [List.getElem?_set_ne n2, List.getElem?_set_ne n1]
/-! ### for -/
theorem Walk.turn {J : It} (w : Walk K F' L J n item) (o : Ok K F' L σ H ρ M) {i : Nat} (hi : i < n) : J.go i H ∧ ∀ x H', J.yld i H x H' → Ok K F' L σ H' ρ M ∧ Dp K (hid (L ++ ad M) H') x (item i) ∧ Same H H' := by
  obtain ⟨h1, h2⟩ := (w i H o.fr).1 hi
  refine ⟨h1, fun x H' hy => ?_⟩
  obtain ⟨h3, h4⟩ := h2 x H' hy
  refine ⟨o.mono h3, h4 _ fun a ha => ⟨?_, o.there ha⟩, h3⟩
  rcases List.mem_append.mp ha with z | z
  · exact .inl z
  · exact .inr (o.fn a z)
theorem s_for {js : List Nat} {up : Nat → List Sl → List Sl} (J : Nat → List Sl → Ms → Prop) (h : EvI K wi ρ M n item M1) (hg : ∀ i, i < n → EvG K g (item i) js (up i)) (h0 : J 0 ρ M1)
    (hs : ∀ F', Same F F' → ∀ i, i < n → ∀ ρ M, J i ρ M → ∀ σ H, Ok K F' L σ H (up i ρ) M → tu { D with nx := fun σ H => ∃ ρ M, J (i + 1) ρ M ∧ Ok K F' L σ H ρ M, ct := fun σ H => ∃ ρ M, J (i + 1) ρ M ∧ Ok K F' L σ H ρ M, bk := D.nx } σ H)
    (hd : ∀ ρ M, J n ρ M → ∀ σ H, Ok K F L σ H ρ M → D.nx σ H) (o : Ok K F L σ H ρ M) : tFor wi g tu D σ H := h F L σ H o _ fun I H1 o1 e1 a1 w => by
  obtain ⟨o2, sF⟩ := o1.fr_self
  refine ⟨fun i m σ H => m = n - i ∧ i ≤ n ∧ ∃ ρ M, J i ρ M ∧ Ok K (hid (ad M1) H1) L σ H ρ M, ⟨n, by simp, Nat.zero_le _, ρ, M1, h0, o2⟩, ?_⟩
  rintro i m σ2 H2 ⟨rfl, hi, ρ2, M2, j2, o2⟩
  by_cases hlt : i < n
  · obtain ⟨go, hy⟩ := w.turn o2 hlt
    refine .inr ⟨go, _, fun σ' H' p' => ⟨n - (i + 1), by omega, rfl, hlt, p'⟩, fun x H' y => ?_⟩
    obtain ⟨o3, hx, _⟩ := hy x H' y
    exact hg i hlt _ L σ2 H' ρ2 M2 x o3 hx _ fun σ3 o4 _ _ => hs _ sF i hlt ρ2 M2 j2 σ3 H' o4
  · have e : i = n := by omega
    subst e
    exact .inl ⟨(w i H2 o2.fr).2 (Nat.le_refl _), hd ρ2 M2 j2 σ2 H2 (o2.unfr sF)⟩
/-- while, by a word that falls -/
theorem s_while (J : Nat → List Sl → Ms → Prop) (m0 : Nat) (h0 : J m0 ρ M)
    (hs : ∀ m ρ M, J m ρ M → ∃ b M1, EvT K tt ρ M b M1 ∧ (b = true → ∀ σ H, Ok K F L σ H ρ M1 → tu { D with nx := fun σ H => ∃ m' ρ M, m' < m ∧ J m' ρ M ∧ Ok K F L σ H ρ M, ct := fun σ H => ∃ m' ρ M, m' < m ∧ J m' ρ M ∧ Ok K F L σ H ρ M, bk := D.nx } σ H) ∧ (b = false → ∀ σ H, Ok K F L σ H ρ M1 → D.nx σ H))
    (o : Ok K F L σ H ρ M) : tWhile tt tu D σ H := by
  refine ⟨fun m σ H => ∃ ρ M, J m ρ M ∧ Ok K F L σ H ρ M, ⟨m0, ρ, M, h0, o⟩, ?_⟩
  rintro m σ1 H1 ⟨ρ1, M1, j1, o1⟩
  obtain ⟨b, M2, hb, h1, h2⟩ := hs m ρ1 M1 j1
  refine hb F L σ1 H1 o1 _ fun H2 o2 e2 a2 => ?_
  cases b with
  | true => exact ⟨_, fun σ' H' ⟨m', ρ, M, hm, j, o⟩ => ⟨m', hm, ρ, M, j, o⟩, h1 rfl σ1 H2 o2⟩
  | false => exact h2 rfl σ1 H2 o2
/-! ### comprehensions -/
def wp : List Sl → List Nat → List Sl
  | ρ, [] => ρ
  | ρ, v :: vs => (wp ρ vs).set v .un
theorem paired_setn {G : Hp} {σ : L2.St} {ρ : List Sl} (h : Paired (SlO K G) σ ρ) : ∀ vs : List Nat, Paired (SlO K G) (wipe σ vs) (wp ρ vs)
  | [] => h
  | v :: vs => by
    unfold wipe wp
    exact paired_set (.inl rfl) v (paired_setn h vs)
theorem wipe_get {σ : L2.St} : ∀ (vs : List Nat) (k : Nat), (wipe σ vs)[k]? = if k ∈ vs then (if k < σ.length then some none else none) else σ[k]?
  | [], k => by simp [wipe]
  | v :: vs, k => by
    unfold wipe
    rw [List.getElem?_set, wipe_length]
    by_cases e : v = k
    · subst e; simp
    · rw [if_neg e, wipe_get vs k]
      by_cases hk : k ∈ vs
      · rw [if_pos hk, if_pos (List.mem_cons_of_mem _ hk)]
      · rw [if_neg hk, if_neg (by rw [List.mem_cons]; rintro (z | z); exact e z.symm; exact hk z)]
theorem wipe_eq {vs js : List Nat} (hj : ∀ j ∈ js, j ∈ vs) (h : ∀ k, k ∉ js → σ'[k]? = σ[k]?) (hl : σ'.length = σ.length) : wipe σ' vs = wipe σ vs := by
  apply List.ext_getElem?; intro k
  rw [wipe_get, wipe_get, hl]
  split
  · rfl
  · exact h k fun z => by rename_i hk; exact hk (hj k z)
theorem wipe_idem (vs : List Nat) : wipe (wipe σ vs) vs = wipe σ vs := by
  apply List.ext_getElem?; intro k
  rw [wipe_get, wipe_length, wipe_get]
  split <;> rfl
def given (n : Nat) (f : Nat → Bool) (v : Nat → PyData) : List PyData := ((List.range n).filter f).map v
theorem given_yes {f : Nat → Bool} {v : Nat → PyData} (h : f n = true) : given (n + 1) f v = given n f v ++ [v n] := by
  unfold given
  rw [List.range_succ, List.filter_append, List.map_append, List.filter_cons, if_pos h] <;> rfl
theorem given_no {f : Nat → Bool} {v : Nat → PyData} (h : f n = false) : given (n + 1) f v = given n f v := by
  unfold given
  rw [List.range_succ, List.filter_append, List.map_append, List.filter_cons, if_neg (by rw [h]; decide)]
  show _ ++ [] = _
  rw [List.append_nil]
theorem given_len (n : Nat) (f : Nat → Bool) (v : Nat → PyData) : (given n f v).length ≤ n := by
  unfold given
  rw [List.length_map]
  have h := List.length_filter_le f (List.range n)
  rw [List.length_range] at h
  exact h
theorem Ok.back {A : Addr} (o1 : Ok K F L σ H1 ρ M1) (o : Ok K (hid (ad M1) H1) (A :: L) σ' H' ρ' Mn) (hA : H1 A = none) : Ok K F (A :: L) σ H' ρ Mn := by
  obtain ⟨_, sF⟩ := o1.fr_self
  refine { o with sl := Paired.mapP o1.sl fun _ _ q => q.mono (fun a y e => ?_), fr := sF.trans o.fr, fn := fun p hp => sF.free (o.fn p hp) }
  obtain ⟨n, e2⟩ := hid_some e
  have e3 : hid (ad M1) H1 a = some y := hid_of (fun z => n (List.mem_append_right _ z)) e2
  refine hid_of (fun z => ?_) (o.fr _ _ e3)
  rcases List.mem_append.mp z with z | z
  · rcases List.mem_cons.mp z with z | z
    · rw [z, hA] at e2; cases e2
    · exact n (List.mem_append_left _ z)
  · rw [o.fn a z] at e3; cases e3
theorem Ok.reslot (o : Ok K F L σ H ρ M) (o' : Ok K F L σ' H' ρ' M') (e : ad M' = ad M) (s : Same (hid (ad M) H) H') : Ok K F L σ H' ρ M' :=
  { o' with sl := by rw [e]; exact Paired.mapP o.sl fun _ _ q => q.mono (same_visL s) }
theorem evn_lc_at {js vs : List Nat} {up : Nat → List Sl → List Sl} (Mf : Nat → Ms) (b : Nat → Bool) (v : Nat → PyData) (o : Ok K F L σ H ρ M) (hi : ∀ R : It → Hp → Prop, (∀ J H1, Ok K F L σ H1 ρ (Mf 0) → ad (Mf 0) = ad M → Same (hid (ad M) H) H1 → Walk K (hid (ad (Mf 0)) H1) L J n item → R J H1) → wi σ H R) (hg : ∀ i, i < n → EvG K g (item i) js (up i)) (hjs : ∀ j ∈ js, j ∈ vs)
    (ht : ∀ i, i < n → EvT K tt (up i (wp ρ vs)) (Mf i) (b i) (Mf i)) (he : ∀ i, i < n → b i = true → Ev K te (up i (wp ρ vs)) (Mf i) (.dat (v i)) (Mf (i + 1))) (hn : ∀ i, i < n → b i = false → Mf (i + 1) = Mf i) (hl : n ≤ 500000) (Q : VK)
    (q : ∀ p vs H1, H p = none → Ok K F (p :: L) σ H1 ρ (Mf n) → ad (Mf n) = ad M → Same (hid (ad M) H) H1 → H1 p = some (.lst vs) → DpAll K (hid (p :: (L ++ ad M)) H1) vs (given n b v) → Q (.ref p) H1) : tLc wi g tt te vs σ H Q := hi _ fun I H1 o1 e1 a1 w => fun A hA => by
  obtain ⟨o2, sF⟩ := o1.fr_self
  have hA0 : H A = none := back_none o o1 e1 a1 hA
  have hFA : hid (ad (Mf 0)) H1 A = none := (hid_le _ _).free hA
  refine ⟨fun i m H' => m = n - i ∧ i ≤ n ∧ Ok K (hid (ad (Mf 0)) H1) (A :: L) (wipe σ vs) H' (wp ρ vs) (Mf i) ∧ ad (Mf i) = ad M ∧ ∃ us, H' A = some (.lst us) ∧ DpAll K (hid (A :: (L ++ ad M)) H') us (given i b v),
    ⟨n, by simp, Nat.zero_le _, ?_, e1, [], upd_same, .nil⟩, ?_⟩
  · have o3 := o2.lay (x := .lst []) hA
    exact { o3 with sl := paired_setn o3.sl vs }
  rintro i m H2 ⟨rfl, hin, o2, ei, us, hu, hus⟩
  by_cases hlt : i < n
  · have w' : Walk K (hid (ad (Mf 0)) H1) (A :: L) I n item := fun k G sG => ⟨fun hk => by
      obtain ⟨h1, h2⟩ := (w k G sG).1 hk
      refine ⟨h1, fun x G' hy => ?_⟩
      obtain ⟨h3, h4⟩ := h2 x G' hy
      refine ⟨h3, fun Y hY => h4 Y fun a ha => ⟨?_, (hY a ha).2⟩⟩
      rcases (hY a ha).1 with z | z
      · rcases List.mem_cons.mp z with z | z
        · rw [z]; exact .inr hFA
        · exact .inl z
      · exact .inr z, (w k G sG).2⟩
    obtain ⟨go, hy⟩ := w'.turn o2 hlt
    refine .inr ⟨go, fun H' => i + 1 ≤ n ∧ Ok K (hid (ad (Mf 0)) H1) (A :: L) (wipe σ vs) H' (wp ρ vs) (Mf (i + 1)) ∧ ad (Mf (i + 1)) = ad M ∧ ∃ us, H' A = some (.lst us) ∧ DpAll K (hid (A :: (L ++ ad M)) H') us (given (i + 1) b v), fun H' p' => ⟨n - (i + 1), by omega, rfl, p'⟩, fun x H3 y => ?_⟩
    have nA : A ∉ ad (Mf i) := by rw [ei]; exact mem_ad_of (Q := fun _ => True) o hA0
    obtain ⟨o3, hx, s3⟩ := hy x H3 y
    have h3A : H3 A = some (.lst us) := s3 _ _ hu
    refine hg i hlt _ (A :: L) _ H3 _ (Mf i) x o3 hx _ fun σ4 o4 ag hlen => ⟨?_, ?_⟩
    · rw [wipe_eq hjs ag hlen, wipe_idem]
    refine ht i hlt _ (A :: L) σ4 H3 o4 _ fun H4 o5 _ a5 => ?_
    have h4A : H4 A = some (.lst us) := a5 _ _ (hid_of nA h3A)
    have s24 : Same (hid (ad (Mf i)) H2) H4 := fun a z e => a5 _ _ (hid_mono s3 _ _ e)
    have vus : ∀ {G : Hp}, Same (hid (ad (Mf i)) H2) G → DpAll K (hid (A :: (L ++ ad M)) G) us (given i b v) := fun sG => DpAll.mono (same_vis sG fun a ha => by
      rw [ei] at ha; exact List.mem_cons_of_mem _ (List.mem_append_right _ ha)) hus
    cases hb : b i with
    | false =>
      rw [if_neg Bool.false_ne_true]
      have em := hn i hlt hb
      refine ⟨hlt, ?_, by rw [em]; exact ei, us, h4A, by rw [given_no hb]; exact vus s24⟩
      rw [em]
      exact o2.reslot o5 rfl s24
    | true =>
      rw [if_pos rfl]
      refine he i hlt hb _ (A :: L) σ4 H4 o5 _ fun z H5 o6 e6 a6 hz => ?_
      have h5A : H5 A = some (.lst us) := a6 _ _ (hid_of nA h4A)
      have s25 : Same (hid (ad (Mf i)) H2) H5 := chain2 rfl s24 a6
      have e7 : ad (Mf (i + 1)) = ad M := e6.trans ei
      have gl := given_len i b v
      refine ⟨us, h5A, ?_, hlt, ?_, e7, us ++ [z], upd_same, ?_⟩
      · rw [hus.length]; exact line_lt (by omega)
      · exact (o2.reslot o6 e6 s25).updL List.mem_cons_self hFA (by rw [e6]; exact nA)
      · rw [hid_upd List.mem_cons_self, given_yes hb]
        refine (vus s25).append (.cons ?_ .nil)
        rw [← ei]; exact hz
  · have e : i = n := by omega
    subst e
    refine .inl ⟨(w i H2 o2.fr).2 (Nat.le_refl _), ?_⟩
    have o3 : Ok K F (A :: L) σ H2 ρ (Mf i) := o1.back o2 hA
    refine q A us H2 hA0 o3 ei (fun a y e => ?_) hu hus
    exact o2.fr _ _ (hid_of (by rw [e1]; exact (hid_some e).1) (a1 _ _ e))
theorem evn_lc {js vs : List Nat} {up : Nat → List Sl → List Sl} (Mf : Nat → Ms) (b : Nat → Bool) (v : Nat → PyData) (hi : EvI K wi ρ M n item (Mf 0)) (hg : ∀ i, i < n → EvG K g (item i) js (up i)) (hjs : ∀ j ∈ js, j ∈ vs)
    (ht : ∀ i, i < n → EvT K tt (up i (wp ρ vs)) (Mf i) (b i) (Mf i)) (he : ∀ i, i < n → b i = true → Ev K te (up i (wp ρ vs)) (Mf i) (.dat (v i)) (Mf (i + 1))) (hn : ∀ i, i < n → b i = false → Mf (i + 1) = Mf i) (hl : n ≤ 500000) :
    EvN K (tLc wi g tt te vs) ρ M (given n b v) (Mf n) := fun F L σ H o Q q => evn_lc_at Mf b v o (hi F L σ H o) hg hjs ht he hn hl Q q
end
end Wm

namespace Wm
open PySem L2 PySem.Spec PyProof.Rows
section
variable {K : PySem.W.Frag} {F F' H H' H0 H1 : Hp} {L : List Addr} {σ σ' : L2.St} {ρ ρ' : List Sl} {M M' M1 M2 M3 Mn : Ms}
variable {te ta tb tc ti : TE} {tt : TT} {tr : TA} {s s1 s2 : Sl} {ss : List Sl} {d d1 d2 d3 : PyData} {ds es : List PyData} {D : Ends} {tu tw : TS} {g : TG} {wi : TI} {n : Nat} {item : Nat → PyData}
/-! ### arguments that are data -/
def EvD (K : PySem.W.Frag) (tr : TA) (ρ : List Sl) (M : Ms) (ds : List PyData) (M' : Ms) : Prop := EvA K tr ρ M (ds.map Sl.dat) M'
theorem ed_nil : EvD K tNil ρ M [] M := EvA.nil
theorem ed_cons (h : Ev K ta ρ M (.dat d) M1) (hr : EvD K tr ρ M1 ds M2) : EvD K (tCons ta tr) ρ M (d :: ds) M2 := EvA.cons h hr
theorem ev_callD {R : List PyData → PyData → Prop} {E : XK} {r : PyData} (ha : EvD K tr ρ M ds M1) (hR : R ds r) : Ev K (tCall (spP K R) [] E tr) ρ M (.dat r) M1 := ev_call ha hR
theorem evn_callD {R : List PyData → List PyData → Prop} {E : XK} {rs : List PyData} (ha : EvD K tr ρ M ds M1) (hR : R ds rs) : EvN K (tCall (spN K R) [] E tr) ρ M rs M1 := evn_call ha hR
theorem evn_lstD (h : EvD K tr ρ M ds M1) (hl : ds.length ≤ 1000000) : EvN K (tLst tr) ρ M ds M1 := evn_lst h hl
theorem ev_tupD (h : EvD K tr ρ M ds M1) (hl : ds.length ≤ 1000000) : Ev K (tTup tr) ρ M (.dat (.tuple ds)) M1 := ev_tup h hl
theorem ea_M {p : Addr} (h : Ev K ta ρ M (.loc (.ref p)) M1) (hr : EvD K tr ρ M1 ds M2) : EvA K (tCons ta tr) ρ M (.loc (.ref p) :: ds.map Sl.dat) M2 := EvA.cons h hr
theorem ev_callMD {R : MO → List PyData → PyData → MO → Prop} {E : XK} {r : PyData} {p : Addr} {x x' : MO} (j : Nat) (h : Ev K ta ρ M (.loc (.ref p)) M1) (hr : EvD K tr ρ M1 ds M2) (hj : M2[j]? = some (p, x)) (hR : R x ds r x') : Ev K (tCall (spM K R) [] E (tCons ta tr)) ρ M (.dat r) (M2.set j (p, x')) := ev_callM (ea_M h hr) hj hR
theorem evn_callMD {R : MO → List PyData → List PyData → MO → Prop} {E : XK} {rs : List PyData} {p : Addr} {x x' : MO} (j : Nat) (h : Ev K ta ρ M (.loc (.ref p)) M1) (hr : EvD K tr ρ M1 ds M2) (hj : M2[j]? = some (p, x)) (hR : R x ds rs x') : EvN K (tCall (spMN K R) [] E (tCons ta tr)) ρ M rs (M2.set j (p, x')) := evn_callM (ea_M h hr) hj hR
/-! ### typed places of lists -/
theorem getD_int {ns : List Int} {i : Int} (h0 : 0 ≤ i) (h1 : i < ns.length) : atI (ns.map PyData.int) i = some (.int (ns.getD i.toNat 0)) := by
  have hi : i.toNat < ns.length := by omega
  rw [atI_pos h0 (by rw [List.length_map]; exact h1), List.getElem?_map, List.getD_eq_getElem?_getD, List.getElem?_eq_getElem hi]
  rfl
theorem getD_str {ns : List Str} {i : Int} (h0 : 0 ≤ i) (h1 : i < ns.length) : atI (ns.map PyData.str) i = some (.str (ns.getD i.toNat Str.empty)) := by
  have hi : i.toNat < ns.length := by omega
  rw [atI_pos h0 (by rw [List.length_map]; exact h1), List.getElem?_map, List.getD_eq_getElem?_getD, List.getElem?_eq_getElem hi]
  rfl
theorem ev_ixI {ns : List Int} {i : Int} (ha : Ev K ta ρ M (.dat (.list (ns.map PyData.int))) M1) (hb : Ev K ti ρ M1 (.dat (.int i)) M2) (h0 : 0 ≤ i) (h1 : i < ns.length) : Ev K (tOp (rIxL K) ta ti) ρ M (.dat (.int (ns.getD i.toNat 0))) M2 := ev_ixL ha hb (getD_int h0 h1)
theorem ev_ixS {ns : List Str} {i : Int} (ha : Ev K ta ρ M (.dat (.list (ns.map PyData.str))) M1) (hb : Ev K ti ρ M1 (.dat (.int i)) M2) (h0 : 0 ≤ i) (h1 : i < ns.length) : Ev K (tOp (rIxL K) ta ti) ρ M (.dat (.str (ns.getD i.toNat Str.empty))) M2 := ev_ixL ha hb (getD_str h0 h1)
/-! ### the local list that changed is handed on as data -/
/-- slots that held the object at p hold the data -/
inductive Fz (p : Addr) (d : PyData) : List Sl → List Sl → Prop
  | nil : Fz p d [] []
  | same {s : Sl} {a b : List Sl} : Fz p d a b → Fz p d (s :: a) (s :: b)
  | here {a b : List Sl} : Fz p d a b → Fz p d (.loc (.ref p) :: a) (.dat d :: b)
theorem fz_ok {G : Hp} {p : Addr} {d : PyData} (h : Dp K G (.ref p) d) : ∀ {σ : L2.St} {ρ ρ' : List Sl}, Fz p d ρ ρ' → Paired (SlO K G) σ ρ → Paired (SlO K G) σ ρ'
  | _, _, _, .nil, q => q
  | _, _, _, .same w, .cons r t => .cons r (fz_ok h w t)
  | _, _, _, .here w, .cons r t => .cons (by
      rcases r with r | ⟨v, r1, r2⟩
      · cases r
      · have e : v = .ref p := r2
        subst e
        exact .inr ⟨_, r1, h⟩) (fz_ok h w t)
theorem ad_erase {M : Ms} {p : Addr} {x : MO} {j : Nat} (hj : M[j]? = some (p, x)) (nd : (ad M).Nodup) : ∀ a, a ∈ ad (M.eraseIdx j) ↔ a ∈ ad M ∧ a ≠ p := fun a => by
  have hl : j < M.length := (List.getElem?_eq_some_iff.mp hj).1
  constructor
  · intro h
    obtain ⟨y, hy, rfl⟩ := List.mem_map.mp h
    have hm : y ∈ M := List.mem_of_mem_eraseIdx hy
    refine ⟨List.mem_map.mpr ⟨y, hm, rfl⟩, fun e => ?_⟩
    obtain ⟨i, hi⟩ := List.mem_iff_getElem?.mp hy
    rw [List.getElem?_eraseIdx] at hi
    split at hi
    · have h1 : (ad M)[i]? = some p := by simp only [ad, List.getElem?_map, hi, Option.map_some, e]
      have h2 : (ad M)[j]? = some p := by simp only [ad, List.getElem?_map, hj, Option.map_some]
      have := (List.getElem?_inj (List.getElem?_eq_some_iff.mp h2).1 nd).mp (h2.trans h1.symm)
      omega
    · have h1 : (ad M)[i + 1]? = some p := by simp only [ad, List.getElem?_map, hi, Option.map_some, e]
      have h2 : (ad M)[j]? = some p := by simp only [ad, List.getElem?_map, hj, Option.map_some]
      have := (List.getElem?_inj (List.getElem?_eq_some_iff.mp h2).1 nd).mp (h2.trans h1.symm)
      omega
  · rintro ⟨h, hn⟩
    obtain ⟨y, hy, rfl⟩ := List.mem_map.mp h
    obtain ⟨i, hi⟩ := List.mem_iff_getElem?.mp hy
    refine List.mem_map.mpr ⟨y, List.mem_iff_getElem?.mpr ?_, rfl⟩
    by_cases e : i < j
    · exact ⟨i, by rw [List.getElem?_eraseIdx, if_pos e]; exact hi⟩
    · have e2 : i ≠ j := fun z => by rw [z, hj] at hi; cases hi; exact hn rfl
      exact ⟨i - 1, by rw [List.getElem?_eraseIdx, if_neg (by omega), show i - 1 + 1 = i by omega]; exact hi⟩
theorem Ok.freeze {p : Addr} (j : Nat) {ρ' : List Sl} (o : Ok K F L σ H ρ M) (hj : M[j]? = some (p, .lst ds)) (hp : p ∉ L) (w : Fz p (.list ds) ρ ρ') : Ok K F L σ H ρ' (M.eraseIdx j) := by
  have ea := ad_erase hj o.nd
  have vis : Same (hid (L ++ ad M) H) (hid (L ++ ad (M.eraseIdx j)) H) := hid_sub fun a ha => by
    rcases List.mem_append.mp ha with z | z
    · exact List.mem_append_left _ z
    · exact List.mem_append_right _ ((ea a).mp z).1
  refine ⟨fz_ok ?_ w (Paired.mapP o.sl fun _ _ q => q.mono vis), fun x hx => (o.ob x (List.mem_of_mem_eraseIdx hx)).mono vis rfl, ?_, o.fr, fun q hq => o.fn q ((ea q).mp hq).1, o.lv⟩
  · obtain ⟨vs, h1, h2⟩ := o.ob _ (List.mem_of_getElem? hj)
    refine .lst (.inl (hid_of (fun z => ?_) h1)) (DpAll.mono vis h2)
    rcases List.mem_append.mp z with z | z
    · exact hp z
    · exact ((ea p).mp z).2 rfl
  · exact List.Nodup.sublist ((List.eraseIdx_sublist M j).map _) o.nd
/-! ### a def's end -/
theorem s_retP {r : PyData} (h : Ev K te ρ M (.dat r) M1) (k : ∀ v H1, Same F H1 → Dp K (hid L H1) v r → D.rt v H1) (o : Ok K F L σ H ρ M) : tRet te D σ H := s_ret h (fun v H1 o1 x1 => k v H1 o1.fr (Dp.mono (hid_sub fun _ z => List.mem_append_left _ z) x1)) o
theorem s_retNP (h : EvN K te ρ M ds M1) (k : ∀ v H1, Same F H1 → Dp K (hid L H1) v (.list ds) → D.rt v H1) (o : Ok K F L σ H ρ M) : tRet te D σ H := s_retP h.ev k o
theorem s_retNN (h : EvN K te ρ M ds M1) (k : ∀ p us H1, Same F H1 → F p = none → p ∉ L ++ ad M → (∀ x ∈ M1, MOk K (hid (p :: (L ++ ad M)) H1) H1 x.1 x.2) → H1 p = some (.lst us) → DpAll K (hid (p :: (L ++ ad M)) H1) us ds → D.rt (.ref p) H1) (o : Ok K F L σ H ρ M) : tRet te D σ H :=
  h F L σ H o _ fun p us H1 hp o1 e1 a1 h1 h2 => k p us H1 o1.fr (o.fr.free hp) (o.fresh hp) (fun x hx => by
    have := o1.ob x hx
    rw [e1] at this; exact this) h1 h2
/-- a local list that was built is handed back as data -/
theorem s_retM {p : Addr} (j : Nat) (h : Ev K te ρ M (.loc (.ref p)) M1) (hj : M1[j]? = some (p, .lst ds)) (hp : p ∉ L) (k : ∀ v H1, Same F H1 → Dp K (hid L H1) v (.list ds) → D.rt v H1) (o : Ok K F L σ H ρ M) : tRet te D σ H := s_ret h (fun v H1 o1 x1 => by
  have ev : v = .ref p := x1
  subst ev
  obtain ⟨vs, h1, h2⟩ := o1.ob _ (List.mem_of_getElem? hj)
  exact k _ H1 o1.fr (.lst (.inl (hid_of hp h1)) (DpAll.mono (hid_sub fun _ z => List.mem_append_left _ z) h2))) o
/-- .. as a new list -/
theorem s_retMN {p : Addr} (j : Nat) (h : Ev K te ρ M (.loc (.ref p)) M1) (hj : M1[j]? = some (p, .lst ds)) (k : ∀ us H1, Same F H1 → F p = none → (∀ x ∈ M1, MOk K (hid (L ++ ad M1) H1) H1 x.1 x.2) → (ad M1).Nodup → H1 p = some (.lst us) → DpAll K (hid (L ++ ad M1) H1) us ds → D.rt (.ref p) H1) (o : Ok K F L σ H ρ M) : tRet te D σ H := s_ret h (fun v H1 o1 x1 => by
  have ev : v = .ref p := x1
  subst ev
  obtain ⟨vs, h1, h2⟩ := o1.ob _ (List.mem_of_getElem? hj)
  exact k vs H1 o1.fr (o1.fn p (mem_ad hj)) o1.ob o1.nd h1 h2) o
end
/-! ### a def, told by what it gives -/
theorem paired_un {K : PySem.W.Frag} {G : Hp} : ∀ n : Nat, Paired (SlO K G) (List.replicate n none) (List.replicate n Sl.un)
  | 0 => .nil
  | n + 1 => .cons (.inl rfl) (paired_un n)
theorem paired_app {α β : Type} {G : α → β → Prop} : ∀ {xs xs' : List α} {ys ys' : List β}, Paired G xs ys → Paired G xs' ys' → Paired G (xs ++ xs') (ys ++ ys')
  | _, _, _, _, .nil, h => h
  | _, _, _, _, .cons a t, h => .cons a (paired_app t h)
theorem paired_start {K : PySem.W.Frag} {G : Hp} : ∀ {vs : List V} {ss : List Sl}, Paired (SlOk K G) vs ss → Paired (SlO K G) (vs.map some) ss
  | _, _, .nil => .nil
  | _, _, .cons a t => .cons (.inr ⟨_, rfl, a⟩) (paired_start t)
def st0 (N : List Str) (ss : List Sl) : List Sl := ss ++ List.replicate (N.length - ss.length) .un
theorem ok_start {K : PySem.W.Frag} {H F : Hp} {L : List Addr} {N : List Str} {vs : List V} {ss : List Sl} {M : Ms} (h : Paired (SlOk K (hid (L ++ ad M) H)) vs ss) (lv : ∀ p ∈ L, H p ≠ none) (ob : ∀ x ∈ M, MOk K (hid (L ++ ad M) H) H x.1 x.2) (nd : (ad M).Nodup) (fr : Same F H) (fn : ∀ p ∈ ad M, F p = none) : Ok K F L (L2.start N vs) H (st0 N ss) M := by
  refine ⟨?_, ob, nd, fr, fn, lv⟩
  unfold L2.start st0
  rw [paired_len h]
  exact paired_app (paired_start h) (paired_un _)
section
variable {P : Program} {w : World} {K : PySem.W.Frag} {mg : Str → Option Value} {base : Heap} {x qual : Str} {st : Stmt} {f : Addr} {fd : FuncData} {N ps : List Str} {k : Nat}
theorem okP {R : List PyData → PyData → Prop} (Fn : Fun K x qual st f fd) (S : FnScope N ps (defScope st)) (hl : ∀ ds r, R ds r → ds.length = ps.length)
    (hb : ∀ cdv A outer s H E, Room k (A.deeper (envOfC qual (defScope st) s.heap.objs.size f cdv)) → ∃ t, PSs (cxOf CX0 P w K mg base N qual (defScope st) f cdv A outer s H E).nox (defBody st) t ∧
      ∀ ds r, R ds r → ∀ (F : Hp) L σ H (D : Ends), (∀ v H', Same F H' → Dp K (hid L H') v r → D.rt v H') → (∀ σ H', Same F H' → r = .none → D.nx σ H') → Ok K F L σ H (st0 N (ds.map Sl.dat)) [] → t D σ H) :
    FnOk P w K mg base CX0 (k + 1) f fd ps (spP K R) := by
  refine Fn.ok S (fun vs H Q E h => ?_) (fun cdv A outer s H vs Q E hr h => ?_)
  · obtain ⟨L, ds, r, lv, hd, hR, _⟩ := h
    rw [hd.length]; exact hl ds r hR
  · obtain ⟨L, ds, r, lv, hd, hR, q⟩ := h
    obtain ⟨t, h1, h2⟩ := hb cdv A outer s H E hr
    refine ⟨t, h1, h2 ds r hR H L _ H _ (fun v H' s2 h => q v H' s2 h) (fun σ H' s2 e => ?_) (ok_start (of_dpAll (by simpa using hd)) lv (fun x hx => by cases hx) (by simp) (Same.refl H) (fun p hp => by simp at hp))⟩
    subst e
    exact q .non H' s2 .non
theorem okN {R : List PyData → List PyData → Prop} (Fn : Fun K x qual st f fd) (S : FnScope N ps (defScope st)) (hl : ∀ ds r, R ds r → ds.length = ps.length)
    (hb : ∀ cdv A outer s H E, Room k (A.deeper (envOfC qual (defScope st) s.heap.objs.size f cdv)) → ∃ t, PSs (cxOf CX0 P w K mg base N qual (defScope st) f cdv A outer s H E).nox (defBody st) t ∧
      ∀ ds rs, R ds rs → ∀ (F : Hp) L σ H (D : Ends), (∀ p us H', Same F H' → F p = none → H' p = some (.lst us) → DpAll K (hid (p :: L) H') us rs → D.rt (.ref p) H') → Ok K F L σ H (st0 N (ds.map Sl.dat)) [] → t D σ H) :
    FnOk P w K mg base CX0 (k + 1) f fd ps (spN K R) := by
  refine Fn.ok S (fun vs H Q E h => ?_) (fun cdv A outer s H vs Q E hr h => ?_)
  · obtain ⟨L, ds, r, lv, hd, hR, _⟩ := h
    rw [hd.length]; exact hl ds r hR
  · obtain ⟨L, ds, r, lv, hd, hR, q⟩ := h
    obtain ⟨t, h1, h2⟩ := hb cdv A outer s H E hr
    exact ⟨t, h1, h2 ds r hR H L _ H _ (fun p us H' s2 hf h h' => q p us H' s2 hf h h') (ok_start (of_dpAll (by simpa using hd)) lv (fun x hx => by cases hx) (by simp) (Same.refl H) (fun p hp => by simp at hp))⟩
theorem okM {R : MO → List PyData → PyData → MO → Prop} (Fn : Fun K x qual st f fd) (S : FnScope N ps (defScope st)) (hl : ∀ y ds r y', R y ds r y' → ds.length + 1 = ps.length)
    (hb : ∀ cdv A outer s H E, Room k (A.deeper (envOfC qual (defScope st) s.heap.objs.size f cdv)) → ∃ t, PSs (cxOf CX0 P w K mg base N qual (defScope st) f cdv A outer s H E).nox (defBody st) t ∧
      ∀ y ds r y', R y ds r y' → ∀ (F : Hp) L p σ H (D : Ends), (∀ v H', Same F H' → MOk K (hid L H') H' p y' → Dp K (hid L H') v r → D.rt v H') → p ∈ L → Ok K F L σ H (st0 N (.loc (.ref p) :: ds.map Sl.dat)) [(p, y)] → t D σ H) :
    FnOk P w K mg base CX0 (k + 1) f fd ps (spM K R) := by
  refine Fn.ok S (fun vs H Q E h => ?_) (fun cdv A outer s H vs Q E hr h => ?_)
  · obtain ⟨L, p, us, y, ds, r, y', rfl, lv, hp, hm, hd, hR, _⟩ := h
    rw [List.length_cons, hd.length]; exact hl _ _ _ _ hR
  · obtain ⟨L, p, us, y, ds, r, y', rfl, lv, hp, hm, hd, hR, q⟩ := h
    obtain ⟨t, h1, h2⟩ := hb cdv A outer s H E hr
    have sub : ∀ G : Hp, Same (hid L G) (hid (L ++ ad [(p, y)]) G) := fun G => hid_sub fun a ha => by
      rcases List.mem_append.mp ha with z | z
      · exact z
      · have e : a = p := by simpa [ad] using z
        rw [e]; exact hp
    refine ⟨t, h1, h2 y ds r y' hR (hid [p] H) L p _ H _ (fun v H' s2 h h' => q v H' s2 h h') hp (ok_start (.cons rfl (of_dpAll (hd.mono (sub H)))) lv (fun x hx => ?_) (by simp [ad]) (hid_le _ _) (fun a ha => ?_))⟩
    · have e : x = (p, y) := by simpa using hx
      subst e
      exact hm.mono (sub H) rfl
    · exact hid_in (by simpa [ad] using ha)
theorem okMN {R : MO → List PyData → List PyData → MO → Prop} (Fn : Fun K x qual st f fd) (S : FnScope N ps (defScope st)) (hl : ∀ y ds r y', R y ds r y' → ds.length + 1 = ps.length)
    (hb : ∀ cdv A outer s H E, Room k (A.deeper (envOfC qual (defScope st) s.heap.objs.size f cdv)) → ∃ t, PSs (cxOf CX0 P w K mg base N qual (defScope st) f cdv A outer s H E).nox (defBody st) t ∧
      ∀ y ds rs y', R y ds rs y' → ∀ (F : Hp) L p σ H (D : Ends), (∀ l us H', Same F H' → F l = none → l ≠ p → MOk K (hid (l :: L) H') H' p y' → H' l = some (.lst us) → DpAll K (hid (l :: L) H') us rs → D.rt (.ref l) H') → p ∈ L → Ok K F L σ H (st0 N (.loc (.ref p) :: ds.map Sl.dat)) [(p, y)] → t D σ H) :
    FnOk P w K mg base CX0 (k + 1) f fd ps (spMN K R) := by
  refine Fn.ok S (fun vs H Q E h => ?_) (fun cdv A outer s H vs Q E hr h => ?_)
  · obtain ⟨L, p, us, y, ds, r, y', rfl, lv, hp, hm, hd, hR, _⟩ := h
    rw [List.length_cons, hd.length]; exact hl _ _ _ _ hR
  · obtain ⟨L, p, us, y, ds, r, y', rfl, lv, hp, hm, hd, hR, q⟩ := h
    obtain ⟨t, h1, h2⟩ := hb cdv A outer s H E hr
    have sub : ∀ G : Hp, Same (hid L G) (hid (L ++ ad [(p, y)]) G) := fun G => hid_sub fun a ha => by
      rcases List.mem_append.mp ha with z | z
      · exact z
      · have e : a = p := by simpa [ad] using z
        rw [e]; exact hp
    refine ⟨t, h1, h2 y ds r y' hR (hid [p] H) L p _ H _ (fun l us H' s2 hf hn h h' h'' => q l us H' s2 (by rw [hid_out (by simpa using hn)] at hf; exact hf) h h' h'') hp (ok_start (.cons rfl (of_dpAll (hd.mono (sub H)))) lv (fun x hx => ?_) (by simp [ad]) (hid_le _ _) (fun a ha => ?_))⟩
    · have e : x = (p, y) := by simpa using hx
      subst e
      exact hm.mono (sub H) rfl
    · exact hid_in (by simpa [ad] using ha)
end
end Wm

namespace Wm
open PySem L2 PySem.Spec PyProof.Rows
section
variable {K : PySem.W.Frag} {F F' H H' H0 H1 : Hp} {L : List Addr} {σ σ' : L2.St} {ρ ρ' : List Sl} {M M' M1 M2 M3 Mn : Ms}
variable {te ta tb tc ti : TE} {tt : TT} {tr : TA} {s s1 s2 : Sl} {ss : List Sl} {d d1 d2 d3 : PyData} {ds es : List PyData} {D : Ends} {tu tw : TS} {g : TG} {wi : TI} {n : Nat} {item : Nat → PyData}
/-! ### a list that is being built, looked at -/
theorem loc_dp {p : Addr} (o : Ok K F L σ H ρ M) (hp : (p, MO.lst ds) ∈ M) (hc : PyData.canLayAll0 ds = true) : L2.Dp K H (.ref p) (.list ds) := by
  obtain ⟨vs, h1, h2⟩ := o.ob _ hp
  exact .lst (.inl (.inl h1)) (DpAll.lo (DpAll.mono (hid_le _ _) h2) hc)
theorem ev_neDl {p : Addr} (ha : Ev K ta ρ M (.loc (.ref p)) M1) (hb : Ev K tb ρ M1 (.dat d2) M2) (hp : (p, MO.lst ds) ∈ M2) (h1 : SeqAt.shaped (.list ds) = true) (h2 : SeqAt.shaped d2 = true) : Ev K (tOp (rNeD K) ta tb) ρ M (.dat (.bool (!PyData.eqv (.list ds) d2))) M2 :=
  ev_op ha hb fun F L σ H x y o hx hy Q q => by
    have ex : x = .ref p := hx
    subst ex
    exact ⟨.list ds, d2, loc_dp o hp (by simpa [PyData.canLay0] using SeqAt.canLay_of_shaped h1), Dp.lo (Dp.mono (hid_le _ _) hy) (SeqAt.canLay_of_shaped h2), h1, h2, q _ H (Same.refl H) (.bl _)⟩
theorem ev_eqDl {p : Addr} (ha : Ev K ta ρ M (.loc (.ref p)) M1) (hb : Ev K tb ρ M1 (.dat d2) M2) (hp : (p, MO.lst ds) ∈ M2) (h1 : SeqAt.shaped (.list ds) = true) (h2 : SeqAt.shaped d2 = true) : Ev K (tOp (rEqD K) ta tb) ρ M (.dat (.bool (PyData.eqv (.list ds) d2))) M2 :=
  ev_op ha hb fun F L σ H x y o hx hy Q q => by
    have ex : x = .ref p := hx
    subst ex
    exact ⟨.list ds, d2, loc_dp o hp (by simpa [PyData.canLay0] using SeqAt.canLay_of_shaped h1), Dp.lo (Dp.mono (hid_le _ _) hy) (SeqAt.canLay_of_shaped h2), h1, h2, q _ H (Same.refl H) (.bl _)⟩
theorem evn_slM {p : Addr} {tl th : TO} {lo hi : Option Int} (ha : Ev K ta ρ M (.loc (.ref p)) M1) (hl : EvO K tl ρ M1 lo M2) (hh : EvO K th ρ M2 hi M3) (hp : (p, MO.lst ds) ∈ M3) : EvN K (tSl (rSlL K) ta tl th) ρ M (cutD ds lo hi) M3 := fun F L σ H o Q q =>
  ha F L σ H o _ fun x H1 o1 e1 a1 x1 => hl F L σ H1 o1 _ fun H2 o2 e2 a2 => hh F L σ H2 o2 _ fun H3 o3 e3 a3 => by
    have ex : x = .ref p := x1
    subst ex
    obtain ⟨vs, h1, h2⟩ := o3.ob _ hp
    have a13 := chain2 (e2.trans e1) (chain2 e1 a1 a2) a3
    have e13 := e3.trans (e2.trans e1)
    refine ⟨p, vs, rfl, SqL.of h1, fun q' hp' => q q' _ _ (back_none o o3 e13 a13 hp') (o3.lay hp') e13 (a13.trans (same_new hp')) upd_same (DpAll.mono (same_lay hp') (cut_dp ?_))⟩
    rw [← e13]; exact h2
/-! ### and, or, if: both parts may be reckoned -/
theorem et_or2 {a b : Bool} (h1 : EvT K tt ρ M a M) {tu : TT} (h2 : EvT K tu ρ M b M) : EvT K (tOr tt tu) ρ M (a || b) M := et_or h1 fun _ => h2
theorem et_and2 {a b : Bool} (h1 : EvT K tt ρ M a M) {tu : TT} (h2 : EvT K tu ρ M b M) : EvT K (tAnd tt tu) ρ M (a && b) M := et_and h1 fun _ => h2
theorem et_orF {tu : TT} (h1 : EvT K tt ρ M false M) (h2 : EvT K tu ρ M false M) : EvT K (tOr tt tu) ρ M false M := et_or h1 fun _ => h2
theorem et_notF (h1 : EvT K tt ρ M true M1) : EvT K (tNot tt) ρ M false M1 := et_not h1
theorem et_notT (h1 : EvT K tt ρ M false M1) : EvT K (tNot tt) ρ M true M1 := et_not h1
theorem ev_andV2 {a b : Bool} (h1 : Ev K ta ρ M (.dat (.bool a)) M) (h2 : Ev K tb ρ M (.dat (.bool b)) M) : Ev K (tAndV ta tb) ρ M (.dat (.bool (a && b))) M := ev_andV h1 fun _ => h2
theorem ev_orV2 {a b : Bool} (h1 : Ev K ta ρ M (.dat (.bool a)) M) (h2 : Ev K tb ρ M (.dat (.bool b)) M) : Ev K (tOrV ta tb) ρ M (.dat (.bool (a || b))) M := ev_orV h1 fun _ => h2
theorem ev_ite2 {b : Bool} (h : EvT K tt ρ M b M) (h1 : Ev K ta ρ M (.dat d1) M) (h2 : Ev K tb ρ M (.dat d2) M) : Ev K (tIf tt ta tb) ρ M (.dat (if b = true then d1 else d2)) M := ev_ite h (fun _ => h1) fun _ => h2
/-- a comprehension without a test that draws nothing -/
theorem evn_lcP {te : TE} {wi : TI} {js vs : List Nat} {up : Nat → List Sl → List Sl} (v : Nat → PyData) (hi : EvI K wi ρ M n item M1) (hg : ∀ i, i < n → EvG K g (item i) js (up i)) (hjs : ∀ j ∈ js, j ∈ vs)
    (he : ∀ i, i < n → Ev K te (up i (wp ρ vs)) M1 (.dat (v i)) M1) (hl : n ≤ 500000) : EvN K (tLc wi g tYes te vs) ρ M ((List.range n).map v) M1 := by
  have h := evn_lc (fun _ => M1) (fun _ => true) v hi hg hjs (fun i _ F L σ H o Q q => q _ o rfl (hid_le _ _)) (fun i h _ => he i h) (fun _ _ e => by cases e) hl
  have e : given n (fun _ => true) v = (List.range n).map v := by
    unfold given
    rw [List.filter_eq_self.mpr (fun _ _ => rfl)]
  rw [e] at h
  exact h
/-- .. with a test -/
theorem evn_lcF {te : TE} {wi : TI} {js vs : List Nat} {up : Nat → List Sl → List Sl} (b : Nat → Bool) (v : Nat → PyData) (hi : EvI K wi ρ M n item M1) (hg : ∀ i, i < n → EvG K g (item i) js (up i)) (hjs : ∀ j ∈ js, j ∈ vs)
    (ht : ∀ i, i < n → EvT K tt (up i (wp ρ vs)) M1 (b i) M1) (he : ∀ i, i < n → Ev K te (up i (wp ρ vs)) M1 (.dat (v i)) M1) (hl : n ≤ 500000) : EvN K (tLc wi g tt te vs) ρ M (given n b v) M1 :=
  evn_lc (fun _ => M1) b v hi hg hjs ht (fun i h _ => he i h) (fun _ _ _ => rfl) hl
theorem range_map_getD {α β : Type} (xs : List α) (d : α) (f : α → β) : (List.range xs.length).map (fun i => f (xs.getD i d)) = xs.map f := by
  apply List.ext_getElem
  · simp
  · intro i h1 h2
    simp at h1
    simp [List.getD_eq_getElem?_getD, h1]
theorem getD_map_int (xs : List Int) (i : Nat) (h : i < xs.length) : (xs.map PyData.int).getD i .none = .int (xs.getD i 0) := by
  simp [List.getD_eq_getElem?_getD, h]
theorem getD_map_str (xs : List Str) (i : Nat) (h : i < xs.length) : (xs.map PyData.str).getD i .none = .str (xs.getD i Str.empty) := by
  simp [List.getD_eq_getElem?_getD, h]
/-! ### statements that draw nothing -/
theorem s_asg0 {i : Nat} (h : Ev K te ρ M s M) (k : ∀ σ H, Ok K F L σ H (ρ.set i s) M → D.nx σ H) (o : Ok K F L σ H ρ M) : tAsg te (gName i) D σ H := s_asg h k o
theorem s_asgN0 {i : Nat} (h : EvN K te ρ M ds M) (k : ∀ p σ H, Ok K F L σ H (ρ.set i (.loc (.ref p))) (M ++ [(p, .lst ds)]) → D.nx σ H) (o : Ok K F L σ H ρ M) : tAsg te (gName i) D σ H := s_asgN h k o
theorem s_drop0 (h : Ev K te ρ M s M) (k : ∀ σ H, Ok K F L σ H ρ M → D.nx σ H) (o : Ok K F L σ H ρ M) : tDrop te D σ H := s_drop h k o
theorem s_if0 {b : Bool} (h : EvT K tt ρ M b M) (h1 : b = true → ∀ H, Ok K F L σ H ρ M → tu D σ H) (h2 : b = false → ∀ H, Ok K F L σ H ρ M → tw D σ H) (o : Ok K F L σ H ρ M) : tIfS tt tu tw D σ H := s_if h h1 h2 o
theorem s_ifT0 (h : EvT K tt ρ M true M) (h1 : ∀ H, Ok K F L σ H ρ M → tu D σ H) (o : Ok K F L σ H ρ M) : tIfS tt tu tw D σ H := s_ifT h h1 o
theorem s_ifF0 (h : EvT K tt ρ M false M) (h1 : ∀ H, Ok K F L σ H ρ M → tw D σ H) (o : Ok K F L σ H ρ M) : tIfS tt tu tw D σ H := s_ifF h h1 o
theorem s_retP0 {r : PyData} (h : Ev K te ρ M (.dat r) M) (k : ∀ v H1, Same F H1 → Dp K (hid L H1) v r → D.rt v H1) (o : Ok K F L σ H ρ M) : tRet te D σ H := s_retP h k o
theorem s_retNN0 (h : EvN K te ρ M ds M) (k : ∀ p us H1, Same F H1 → F p = none → H1 p = some (.lst us) → DpAll K (hid (p :: L) H1) us ds → D.rt (.ref p) H1) (o : Ok K F L σ H ρ M) : tRet te D σ H := s_retNN h (fun p us H1 s hp _ _ h1 h2 => k p us H1 s hp h1 (DpAll.mono (hid_sub fun _ z => by
  rcases List.mem_cons.mp z with z | z
  · rw [z]; exact List.mem_cons_self
  · exact List.mem_cons_of_mem _ (List.mem_append_left _ z)) h2)) o
theorem s_retMN0 {p : Addr} (j : Nat) (h : Ev K te ρ M (.loc (.ref p)) M) (hj : M[j]? = some (p, .lst ds)) (k : ∀ p us H1, Same F H1 → F p = none → H1 p = some (.lst us) → DpAll K (hid (p :: L) H1) us ds → D.rt (.ref p) H1) (o : Ok K F L σ H ρ M) : tRet te D σ H := s_retMN j h hj (fun us H1 s hp _ _ h1 h2 => k p us H1 s hp h1 (DpAll.mono (hid_sub fun _ z => by
  rcases List.mem_cons.mp z with z | z
  · rw [z]; exact List.mem_append_right _ (mem_ad hj)
  · exact List.mem_append_left _ z) h2)) o
/-! ### isinstance -/
/-- the class's name of data -/
def tyD : PyData → String
  | .none => "NoneType" | .bool _ => "bool" | .int _ => "int" | .str _ => "str" | .list _ => "list" | .tuple _ => "tuple" | .dict _ => "list"
theorem ty_of {v : V} (h : Dp K H v d) : L2.TyX K H v (.type (tyD d)) := by
  cases h with
  | non => exact .base .non
  | bl b => exact .base (.bl b)
  | int i => exact .base (.int i)
  | str x => exact .base (.str x)
  | lst h a =>
    rcases h with h | ⟨o, h⟩
    · exact .base (.lst h)
    · exact .base (.frz h)
  | tup h a =>
    exact .base (.tup h)
  | scr h =>
    rcases h with (h | ⟨o, h⟩) | ⟨o, its, n, hk, hc, _⟩
    · exact .base (.lst h)
    · exact .base (.frz h)
    · exact .kList hk hc
/-- what isinstance(d, T) says, T one of int, bool, str, list, tuple -/
def isD : PyData → String → Bool
  | .bool _, T => T == "bool" || T == "int"
  | d, T => tyD d == T
theorem kit_all : ∀ a ∈ ["NoneType", "bool", "int", "str", "list", "tuple"], ∀ b ∈ ["bool", "int", "str", "list", "tuple"], kitB a b = some (if a == "bool" then b == "bool" || b == "int" else a == b) := by decide +kernel
theorem isD_kit {v : V} {T : String} (h : Dp K H v d) (hT : T ∈ ["bool", "int", "str", "list", "tuple"]) : kitB (tyD d) T = some (isD d T) := by
  cases h with
  | non => exact kit_all "NoneType" (by simp) T hT
  | bl b => exact kit_all "bool" (by simp) T hT
  | int i => exact kit_all "int" (by simp) T hT
  | str x => exact kit_all "str" (by simp) T hT
  | lst h a => exact kit_all "list" (by simp) T hT
  | tup h a => exact kit_all "tuple" (by simp) T hT
  | scr h => exact kit_all "list" (by simp) T hT
theorem ev_isi {T : String} (ha : Ev K ta ρ M (.dat d) M1) (hT : T ∈ ["bool", "int", "str", "list", "tuple"]) : Ev K (tCB (rIsi K) (tCons ta (tCons (tC (.ty T)) tNil))) ρ M (.dat (.bool (isD d T))) M1 := by
  refine ev_cb (ss := [.dat d, .loc (.ty T)]) (EvA.cons ha (EvA.cons (ev_c fun _ => rfl) EvA.nil)) fun F L σ H xs o hx Q q => ?_
  obtain ⟨x, c, rfl, h1, h2⟩ := two_of hx
  have ec : c = .ty T := h2
  subst ec
  have hd : Dp K H x d := Dp.mono (hid_le _ _) h1
  exact ⟨x, .ty T, .type (tyD d), .type T, isD d T, rfl, .ty T, ty_of hd, kit_ty (isD_kit hd hT), q _ H (Same.refl H) (.bl _)⟩
/-- isinstance(xs, list), xs a list that is being built -/
theorem ev_isiM {p : Addr} (ha : Ev K ta ρ M (.loc (.ref p)) M1) (hp : (p, MO.lst ds) ∈ M1) : Ev K (tCB (rIsi K) (tCons ta (tCons (tC (.ty "list")) tNil))) ρ M (.dat (.bool true)) M1 := by
  refine ev_cb (ss := [.loc (.ref p), .loc (.ty "list")]) (EvA.cons ha (EvA.cons (ev_c fun _ => rfl) EvA.nil)) fun F L σ H xs o hx Q q => ?_
  obtain ⟨x, c, rfl, h1, h2⟩ := two_of hx
  have ec : c = .ty "list" := h2
  have ex : x = .ref p := h1
  subst ec ex
  obtain ⟨vs, h3, _⟩ := o.ob _ hp
  exact ⟨.ref p, .ty "list", .type "list", .type "list", true, rfl, .ty _, .base (.lst h3), kit_ty (by decide +kernel), q _ H (Same.refl H) (.bl _)⟩
/-! ### tuple(x), list(range(..)), tuple(range(..)) -/
theorem ev_tupleL (h : Ev K te ρ M (.dat (.list ds)) M1) : Ev K (tThen te (kTup K)) ρ M (.dat (.tuple ds)) M1 := fun F L σ H o Q q => h F L σ H o _ fun x H1 o1 e1 a1 x1 => by
  obtain ⟨a, xs, rfl, h1, h2⟩ := list_of x1
  refine .inl ⟨a, xs, rfl, .inl (Rd.mono (hid_le _ _) h1), fun p hp => ?_⟩
  refine q _ _ (o1.new hp) e1 (a1.trans (same_new hp)) (.tup ?_ (DpAll.mono (hid_mono (same_new hp)) h2))
  rw [hid_out (by rw [← e1]; exact o1.fresh hp)]; exact upd_same
/-- .. of a list that was built -/
theorem ev_tupleM {p : Addr} (h : Ev K te ρ M (.loc (.ref p)) M1) (hp : (p, MO.lst ds) ∈ M1) : Ev K (tThen te (kTup K)) ρ M (.dat (.tuple ds)) M1 := fun F L σ H o Q q => h F L σ H o _ fun x H1 o1 e1 a1 x1 => by
  have ex : x = .ref p := x1
  subst ex
  obtain ⟨vs, h1, h2⟩ := o1.ob _ hp
  refine .inl ⟨p, vs, rfl, SqL.of h1, fun q' hp' => ?_⟩
  rw [e1] at h2
  refine q _ _ (o1.new hp') e1 (a1.trans (same_new hp')) (.tup ?_ (DpAll.mono (hid_mono (same_new hp')) h2))
  rw [hid_out (by rw [← e1]; exact o1.fresh hp')]; exact upd_same
def rgD (a b : Int) : List PyData := (List.range (b - a).toNat).map fun i => PyData.int (a + (i : Nat))
def rgI (a b : Int) : List Int := (List.range (b - a).toNat).map fun i => a + (i : Nat)
theorem rgD_eq (a b : Int) : rgD a b = (rgI a b).map PyData.int := by unfold rgD rgI; rw [List.map_map]; rfl
theorem rg_dp {a b : Int} : DpAll K H (rgV a b) ((rgI a b).map PyData.int) := by
  have e : rgV a b = (rgI a b).map V.int := by unfold rgV rgI; rw [List.map_map]; rfl
  rw [e]; exact ints_dp
/-- a range's ends -/
def EvR (K : PySem.W.Frag) (tr : L2.St → Hp → (Int → Int → Hp → Prop) → Prop) (ρ : List Sl) (M : Ms) (a b : Int) (M' : Ms) : Prop := ∀ F L σ H, Ok K F L σ H ρ M → ∀ Q : Int → Int → Hp → Prop, (∀ H1, Ok K F L σ H1 ρ M' → ad M' = ad M → Same (hid (ad M) H) H1 → Q a b H1) → tr σ H Q
theorem er_1 {b : Int} (h : Ev K ta ρ M (.dat (.int b)) M1) : EvR K (tRg1 ta) ρ M 0 b M1 := fun F L σ H o Q q => h F L σ H o _ fun x H1 o1 e1 a1 x1 => ⟨b, int_of x1, q H1 o1 e1 a1⟩
theorem er_2 {a b : Int} (h : Ev K ta ρ M (.dat (.int a)) M1) (h' : Ev K tb ρ M1 (.dat (.int b)) M2) : EvR K (tRg2 ta tb) ρ M a b M2 := fun F L σ H o Q q => h.two h' o fun x y H2 o2 e2 a2 hx hy => ⟨a, b, int_of hx, int_of hy, q H2 o2 e2 a2⟩
theorem evn_listR {tr : L2.St → Hp → (Int → Int → Hp → Prop) → Prop} {a b : Int} (h : EvR K tr ρ M a b M1) (hr : 0 ≤ a ∧ a ≤ 1000000 ∧ b ≤ 1000000 ∧ 0 ≤ b := by omega) : EvN K (tLstRg tr) ρ M ((rgI a b).map PyData.int) M1 := fun F L σ H o Q q => h F L σ H o _ fun H1 o1 e1 a1 => ⟨RgOk.of_le hr.1 (by omega) (by omega) hr.2.2.2, fun p hp =>
  q p _ _ (back_none o o1 e1 a1 hp) (o1.lay hp) e1 (a1.trans (same_new hp)) upd_same rg_dp⟩
theorem ev_tupR {tr : L2.St → Hp → (Int → Int → Hp → Prop) → Prop} {a b : Int} (h : EvR K tr ρ M a b M1) (hr : 0 ≤ a ∧ a ≤ 1000000 ∧ b ≤ 1000000 ∧ 0 ≤ b := by omega) : Ev K (tTupRg tr) ρ M (.dat (.tuple ((rgI a b).map PyData.int))) M1 := fun F L σ H o Q q => h F L σ H o _ fun H1 o1 e1 a1 => ⟨RgOk.of_le hr.1 (by omega) (by omega) hr.2.2.2, fun p hp => by
  refine q _ _ (o1.new hp) e1 (a1.trans (same_new hp)) (.tup ?_ rg_dp)
  rw [hid_out (by rw [← e1]; exact o1.fresh hp)]; exact upd_same⟩
end
/-! ### the defs of a text -/
structure Bl (mg : Str → Option Value) : Prop where
  abs_ : mg "abs" = none
  all_ : mg "all" = none
  enumerate_ : mg "enumerate" = none
  int_ : mg "int" = none
  isinstance_ : mg "isinstance" = none
  len_ : mg "len" = none
  list_ : mg "list" = none
  max_ : mg "max" = none
  min_ : mg "min" = none
  range_ : mg "range" = none
  set_ : mg "set" = none
  sorted_ : mg "sorted" = none
  str_ : mg "str" = none
  tuple_ : mg "tuple" = none
  zip_ : mg "zip" = none
  bool_ : mg "bool" = none
  repr_ : mg "repr" = none
  ValueError_ : mg "ValueError" = none
/-- the def x of the text, as the top has left it -/
def Raw (K : PySem.W.Frag) (mg : Str → Option Value) (x qual : Str) (st : Stmt) : Prop := ∃ f fd, Fun K x qual st f fd ∧ mg x = some (.ref f)
/-- .. and what it keeps -/
def Has (P : Program) (w : World) (K : PySem.W.Frag) (mg : Str → Option Value) (base : Heap) (k : Nat) (x : Str) (ps : List Str) (sp : Sp) : Prop := ∃ f fd, FnOk P w K mg base CX0 k f fd ps sp ∧ mg x = some (.ref f) ∧ PySem.W.keepIn K (.ref f) = true ∧ Binds K fd ps []
end Wm

namespace Wm
open PySem L2 PySem.Spec PyProof.Rows
section
variable {K : PySem.W.Frag} {F F' H H' H0 H1 : Hp} {L : List Addr} {σ σ' : L2.St} {ρ ρ' : List Sl} {M M' M1 M2 M3 Mn : Ms}
variable {te ta tb tc ti : TE} {tt : TT} {tr : TA} {s s1 s2 : Sl} {ss : List Sl} {d d1 d2 d3 : PyData} {ds es : List PyData} {D : Ends} {tu tw tv : TS} {g : TG} {wi : TI} {n : Nat} {item : Nat → PyData}
/-! ### a statement with more behind it -/
theorem s_next {X : L2.St → Hp → Prop} (h : X σ H) : tNext { nx := X, rt := D.rt, bk := D.bk, ct := D.ct } σ H := h
theorem q_asg {i : Nat} (h : Ev K te ρ M s M1) (k : ∀ σ H, Ok K F L σ H (ρ.set i s) M1 → tv D σ H) (o : Ok K F L σ H ρ M) : tSeq (tAsg te (gName i)) tv D σ H := s_asg (D := { D with nx := tv D }) h k o
theorem q_asgN {i : Nat} (h : EvN K te ρ M ds M1) (k : ∀ p σ H, Ok K F L σ H (ρ.set i (.loc (.ref p))) (M1 ++ [(p, .lst ds)]) → tv D σ H) (o : Ok K F L σ H ρ M) : tSeq (tAsg te (gName i)) tv D σ H := s_asgN (D := { D with nx := tv D }) h k o
theorem q_drop (h : Ev K te ρ M s M1) (k : ∀ σ H, Ok K F L σ H ρ M1 → tv D σ H) (o : Ok K F L σ H ρ M) : tSeq (tDrop te) tv D σ H := s_drop (D := { D with nx := tv D }) h k o
theorem q_assoc (h : tSeq tu (tSeq tw tv) D σ H) : tSeq (tSeq tu tw) tv D σ H := h
theorem q_ret (h : tRet te D σ H) : tSeq (tRet te) tv D σ H := h
theorem q_next (h : tv D σ H) : tSeq tNext tv D σ H := h
theorem q_if {b : Bool} (h : EvT K tt ρ M b M1) (h1 : b = true → ∀ H, Ok K F L σ H ρ M1 → tSeq tu tv D σ H) (h2 : b = false → ∀ H, Ok K F L σ H ρ M1 → tSeq tw tv D σ H) (o : Ok K F L σ H ρ M) : tSeq (tIfS tt tu tw) tv D σ H := s_if (D := { D with nx := tv D }) h h1 h2 o
/-- if c: ..; the rest -/
theorem q_if1 {b : Bool} (h : EvT K tt ρ M b M1) (h1 : b = true → ∀ H, Ok K F L σ H ρ M1 → tSeq tu tv D σ H) (h2 : b = false → ∀ H, Ok K F L σ H ρ M1 → tv D σ H) (o : Ok K F L σ H ρ M) : tSeq (tIfS tt tu tNext) tv D σ H := s_if (D := { D with nx := tv D }) h h1 h2 o
/-- if c: return ..; the rest -/
theorem q_ifR {b : Bool} (h : EvT K tt ρ M b M1) (h1 : b = true → ∀ H, Ok K F L σ H ρ M1 → tRet te D σ H) (h2 : b = false → ∀ H, Ok K F L σ H ρ M1 → tv D σ H) (o : Ok K F L σ H ρ M) : tSeq (tIfS tt (tRet te) tNext) tv D σ H := s_if (D := { D with nx := tv D }) h h1 h2 o
theorem q_ifF (h : EvT K tt ρ M false M1) (h2 : ∀ H, Ok K F L σ H ρ M1 → tv D σ H) (o : Ok K F L σ H ρ M) : tSeq (tIfS tt tu tNext) tv D σ H := q_if1 h (fun e => by cases e) (fun _ => h2) o
theorem q_app {p : Addr} {j : Nat} {ds0 : List PyData} (ha : Ev K ta ρ M (.loc (.ref p)) M) (h : Ev K te ρ M (.dat d) M1) (hj0 : M[j]? = some (p, .lst ds0)) (hj : M1[j]? = some (p, .lst ds)) (hz : ds.length < 1000000) (k : ∀ σ H, Ok K F L σ H ρ (M1.set j (p, .lst (ds ++ [d]))) → tv D σ H) (o : Ok K F L σ H ρ M) :
    tSeq (tDrop (tBM K "list" rAppend ta (tCons te tNil))) tv D σ H := s_app (D := { D with nx := tv D }) ha h hj0 hj hz k o
theorem q_setL {p : Addr} {j n : Nat} {i : Int} (h : Ev K te ρ M (.dat d) M1) (ha : Ev K ta ρ M1 (.loc (.ref p)) M2) (hi : Ev K ti ρ M2 (.dat (.int i)) M3) (hj : M3[j]? = some (p, .lst ds)) (hn : ixN ds.length i = some n) (k : ∀ σ H, Ok K F L σ H ρ (M3.set j (p, .lst (ds.set n d))) → tv D σ H) (o : Ok K F L σ H ρ M) :
    tSeq (tAsg te (gSub ta ti rSetL)) tv D σ H := s_setL (D := { D with nx := tv D }) h ha hi hj hn k o
theorem q_asg2 {i j : Nat} (h : Ev K te ρ M (.dat (.tuple [d1, d2])) M1) (k : ∀ σ H, Ok K F L σ H ((ρ.set i (.dat d1)).set j (.dat d2)) M1 → tv D σ H) (o : Ok K F L σ H ρ M) : tSeq (tAsg te (gTup K 2 (gCons (gName i) (gCons (gName j) gNil)))) tv D σ H := s_asg2 (D := { D with nx := tv D }) h k o
theorem q_par {i j : Nat} {ta : TA} (h : EvA K ta ρ M [s1, s2] M1) (k : ∀ σ H, Ok K F L σ H ((ρ.set i s1).set j s2) M1 → tv D σ H) (o : Ok K F L σ H ρ M) : tSeq (tPar i j ta) tv D σ H := s_par (D := { D with nx := tv D }) h k o
theorem q_for {js : List Nat} {up : Nat → List Sl → List Sl} (J : Nat → List Sl → Ms → Prop) (h : EvI K wi ρ M n item M1) (hg : ∀ i, i < n → EvG K g (item i) js (up i)) (h0 : J 0 ρ M1)
    (hs : ∀ F', Same F F' → ∀ i, i < n → ∀ ρ M, J i ρ M → ∀ σ H, Ok K F' L σ H (up i ρ) M → tu { nx := fun σ H => ∃ ρ M, J (i + 1) ρ M ∧ Ok K F' L σ H ρ M, rt := D.rt, bk := tv D, ct := fun σ H => ∃ ρ M, J (i + 1) ρ M ∧ Ok K F' L σ H ρ M } σ H)
    (hd : ∀ ρ M, J n ρ M → ∀ σ H, Ok K F L σ H ρ M → tv D σ H) (o : Ok K F L σ H ρ M) : tSeq (tFor wi g tu) tv D σ H := s_for (D := { D with nx := tv D }) J h hg h0 hs hd o
theorem q_while (J : Nat → List Sl → Ms → Prop) (m0 : Nat) (h0 : J m0 ρ M)
    (hs : ∀ m ρ M, J m ρ M → ∃ b M1, EvT K tt ρ M b M1 ∧ (b = true → ∀ σ H, Ok K F L σ H ρ M1 → tu { nx := fun σ H => ∃ m' ρ M, m' < m ∧ J m' ρ M ∧ Ok K F L σ H ρ M, rt := D.rt, bk := tv D, ct := fun σ H => ∃ m' ρ M, m' < m ∧ J m' ρ M ∧ Ok K F L σ H ρ M } σ H) ∧ (b = false → ∀ σ H, Ok K F L σ H ρ M1 → tv D σ H))
    (o : Ok K F L σ H ρ M) : tSeq (tWhile tt tu) tv D σ H := s_while (D := { D with nx := tv D }) J m0 h0 hs o
/-- .. draws nothing -/
theorem q_for0 {js : List Nat} {up : Nat → List Sl → List Sl} (J : Nat → List Sl → Ms → Prop) (h : EvI K wi ρ M n item M) (hg : ∀ i, i < n → EvG K g (item i) js (up i)) (h0 : J 0 ρ M)
    (hs : ∀ F', Same F F' → ∀ i, i < n → ∀ ρ M, J i ρ M → ∀ σ H, Ok K F' L σ H (up i ρ) M → tu { nx := fun σ H => ∃ ρ M, J (i + 1) ρ M ∧ Ok K F' L σ H ρ M, rt := D.rt, bk := tv D, ct := fun σ H => ∃ ρ M, J (i + 1) ρ M ∧ Ok K F' L σ H ρ M } σ H)
    (hd : ∀ ρ M, J n ρ M → ∀ σ H, Ok K F L σ H ρ M → tv D σ H) (o : Ok K F L σ H ρ M) : tSeq (tFor wi g tu) tv D σ H := q_for J h hg h0 hs hd o
theorem s_for0 {js : List Nat} {up : Nat → List Sl → List Sl} (J : Nat → List Sl → Ms → Prop) (h : EvI K wi ρ M n item M) (hg : ∀ i, i < n → EvG K g (item i) js (up i)) (h0 : J 0 ρ M)
    (hs : ∀ F', Same F F' → ∀ i, i < n → ∀ ρ M, J i ρ M → ∀ σ H, Ok K F' L σ H (up i ρ) M → tu { D with nx := fun σ H => ∃ ρ M, J (i + 1) ρ M ∧ Ok K F' L σ H ρ M, ct := fun σ H => ∃ ρ M, J (i + 1) ρ M ∧ Ok K F' L σ H ρ M, bk := D.nx } σ H)
    (hd : ∀ ρ M, J n ρ M → ∀ σ H, Ok K F L σ H ρ M → D.nx σ H) (o : Ok K F L σ H ρ M) : tFor wi g tu D σ H := s_for J h hg h0 hs hd o
theorem q_asg0 {i : Nat} (h : Ev K te ρ M s M) (k : ∀ σ H, Ok K F L σ H (ρ.set i s) M → tv D σ H) (o : Ok K F L σ H ρ M) : tSeq (tAsg te (gName i)) tv D σ H := q_asg h k o
theorem q_asgN0 {i : Nat} (h : EvN K te ρ M ds M) (k : ∀ p σ H, Ok K F L σ H (ρ.set i (.loc (.ref p))) (M ++ [(p, .lst ds)]) → tv D σ H) (o : Ok K F L σ H ρ M) : tSeq (tAsg te (gName i)) tv D σ H := q_asgN h k o
theorem q_drop0 (h : Ev K te ρ M s M) (k : ∀ σ H, Ok K F L σ H ρ M → tv D σ H) (o : Ok K F L σ H ρ M) : tSeq (tDrop te) tv D σ H := q_drop h k o
theorem q_if0 {b : Bool} (h : EvT K tt ρ M b M) (h1 : b = true → ∀ H, Ok K F L σ H ρ M → tSeq tu tv D σ H) (h2 : b = false → ∀ H, Ok K F L σ H ρ M → tSeq tw tv D σ H) (o : Ok K F L σ H ρ M) : tSeq (tIfS tt tu tw) tv D σ H := q_if h h1 h2 o
theorem q_if10 {b : Bool} (h : EvT K tt ρ M b M) (h1 : b = true → ∀ H, Ok K F L σ H ρ M → tSeq tu tv D σ H) (h2 : b = false → ∀ H, Ok K F L σ H ρ M → tv D σ H) (o : Ok K F L σ H ρ M) : tSeq (tIfS tt tu tNext) tv D σ H := q_if1 h h1 h2 o
theorem q_ifR0 {b : Bool} (h : EvT K tt ρ M b M) (h1 : b = true → ∀ H, Ok K F L σ H ρ M → tRet te D σ H) (h2 : b = false → ∀ H, Ok K F L σ H ρ M → tv D σ H) (o : Ok K F L σ H ρ M) : tSeq (tIfS tt (tRet te) tNext) tv D σ H := q_ifR h h1 h2 o
theorem q_ifF0 (h : EvT K tt ρ M false M) (h2 : ∀ H, Ok K F L σ H ρ M → tv D σ H) (o : Ok K F L σ H ρ M) : tSeq (tIfS tt tu tNext) tv D σ H := q_ifF h h2 o
end
end Wm

namespace Wm
open PySem L2 PySem.Spec PyProof.Rows
section
variable {K : PySem.W.Frag} {F F' H H' H0 H1 : Hp} {L L' : List Addr} {σ σ' : L2.St} {ρ ρ' : List Sl} {M M' M1 M2 M3 Mn : Ms}
variable {te ta tb tc ti : TE} {tt : TT} {tr : TA} {s s1 s2 : Sl} {ss : List Sl} {d d1 d2 d3 : PyData} {ds es : List PyData} {D : Ends} {tu tw tv : TS} {g : TG} {wi : TI} {n : Nat} {item : Nat → PyData}
theorem Walk.more {J : It} (w : Walk K F L J n item) (h : ∀ a ∈ L', a ∈ L ∨ F a = none) : Walk K F L' J n item := fun k G sG => ⟨fun hk => by
  obtain ⟨h1, h2⟩ := (w k G sG).1 hk
  refine ⟨h1, fun x G' hy => ?_⟩
  obtain ⟨h3, h4⟩ := h2 x G' hy
  refine ⟨h3, fun Y hY => h4 Y fun a ha => ⟨?_, (hY a ha).2⟩⟩
  rcases (hY a ha).1 with z | z
  · exact h a z
  · exact .inr z, (w k G sG).2⟩
theorem Ok.perm (o : Ok K F L σ H ρ M) (h : ∀ a, a ∈ L' ↔ a ∈ L) : Ok K F L' σ H ρ M where
  sl := Paired.mapP o.sl fun _ _ q => q.mono (hid_sub fun a ha => by
    rcases List.mem_append.mp ha with z | z
    · exact List.mem_append_left _ ((h a).mp z)
    · exact List.mem_append_right _ z)
  ob := fun x hx => (o.ob x hx).mono (hid_sub fun a ha => by
    rcases List.mem_append.mp ha with z | z
    · exact List.mem_append_left _ ((h a).mp z)
    · exact List.mem_append_right _ z) rfl
  nd := o.nd
  fr := o.fr
  fn := o.fn
  lv := fun a ha => o.lv a ((h a).mp ha)
/-- less is out of sight -/
theorem Ok.less (o : Ok K F L' σ H ρ M) (h : ∀ a, a ∈ L → a ∈ L') : Ok K F L σ H ρ M where
  sl := Paired.mapP o.sl fun _ _ q => q.mono (hid_sub fun a ha => by
    rcases List.mem_append.mp ha with z | z
    · exact List.mem_append_left _ (h a z)
    · exact List.mem_append_right _ z)
  ob := fun x hx => (o.ob x hx).mono (hid_sub fun a ha => by
    rcases List.mem_append.mp ha with z | z
    · exact List.mem_append_left _ (h a z)
    · exact List.mem_append_right _ z) rfl
  nd := o.nd
  fr := o.fr
  fn := o.fn
  lv := fun a ha => o.lv a (h a ha)
/-- the changing objects are only out of sight -/
theorem Ok.dropM (o : Ok K F L σ H ρ M) : Ok K F (ad M ++ L) σ H ρ [] where
  sl := Paired.mapP o.sl fun _ _ q => q.mono (hid_sub fun a ha => by
    simp only [ad, List.map_nil, List.append_nil, List.mem_append] at ha ⊢
    exact ha.symm)
  ob := fun x hx => by cases hx
  nd := by simp
  fr := o.fr
  fn := fun p hp => by simp at hp
  lv := fun a ha => by
    rcases List.mem_append.mp ha with z | z
    · exact o.there (List.mem_append_right _ z)
    · exact o.lv a z
/-- a changing object out of sight is told again -/
theorem Ok.pick (o : Ok K F L σ H ρ []) {p : Addr} {x : MO} (hp : p ∈ L) (hx : MOk K (hid L H) H p x) (hf : F' p = none) (sF : Same F' H) : Ok K F' L σ H ρ [(p, x)] := by
  have sub : ∀ a, a ∈ L ++ ad [(p, x)] → a ∈ L := fun a ha => by
    simp only [ad, List.map_cons, List.map_nil, List.mem_append, List.mem_singleton] at ha
    rcases ha with z | z
    · exact z
    · rw [z]; exact hp
  have e0 : L ++ ad ([] : Ms) = L := by simp
  refine ⟨Paired.mapP o.sl fun _ _ q => ?_, fun y hy => ?_, by simp [ad], sF, fun q hq => ?_, o.lv⟩
  · rw [e0] at q; exact q.mono (hid_sub sub)
  · have e : y = (p, x) := by simpa using hy
    subst e
    exact hx.mono (hid_sub sub) rfl
  · have e : q = p := by simpa [ad] using hq
    rw [e]; exact hf
/-! ### the law's bags: a list of lists that change -/
/-- the bags at the places ps, in the list at a; bd tells the j-th one -/
def BagsAt (K : PySem.W.Frag) (L : List Addr) (H0 H1 : Hp) (n : Nat) (bd : Nat → List PyData) (a : Addr) (ps : List Addr) : Prop :=
  H0 a = none ∧ (∀ p ∈ ps, H0 p = none) ∧ (a :: ps).Nodup ∧ ps.length = n ∧ H1 a = some (.lst (ps.map V.ref)) ∧ ∀ j (p : Addr), ps[j]? = some p → MOk K (hid (a :: (ps ++ L)) H1) H1 p (.lst (bd j))
/-- an expression that makes bags -/
def EvB (K : PySem.W.Frag) (te : TE) (ρ : List Sl) (n : Nat) (bd : Nat → List PyData) : Prop := ∀ F L σ H, Ok K F L σ H ρ [] → ∀ Q : VK, (∀ a ps H1, Same H H1 → BagsAt K L H H1 n bd a ps → Ok K F (a :: (ps ++ L)) σ H1 ρ [] → Q (.ref a) H1) → te σ H Q
theorem evb_lc {bd : Nat → List PyData} {j : Nat} (hi : EvI K wi ρ [] n item []) (hg : ∀ i, i < n → EvG K g (item i) [j] (fun ρ => ρ.set j (.dat (item i)))) (he : ∀ i, i < n → EvN K te ((wp ρ [j]).set j (.dat (item i))) [] (bd i) []) (hl : n ≤ 500000) : EvB K (tLc wi g tYes te [j]) ρ n bd := fun F L σ H o Q q => hi F L σ H o _ fun I H1 o1 e1 a1 w => fun A hA => by
  have sH1 : Same H H1 := by
    have h := a1
    rw [show ad ([] : Ms) = [] from rfl, hid_nil] at h; exact h
  have hA0 : H A = none := sH1.free hA
  rw [show ad ([] : Ms) = [] from rfl, hid_nil] at w
  refine ⟨fun i m H' => m = n - i ∧ i ≤ n ∧ ∃ ps, BagsAt K L H1 H' i bd A ps ∧ Ok K H1 (A :: (ps ++ L)) (wipe σ [j]) H' (wp ρ [j]) [], ⟨n, by simp, Nat.zero_le _, [], ⟨hA, by simp, by simp, rfl, upd_same, fun j p h => by simp at h⟩, ?_⟩, ?_⟩
  · have o3 := o1.lay (x := .lst []) hA
    have o4 : Ok K F (A :: ([] ++ L)) (wipe σ [j]) (upd H1 A (.lst [])) (wp ρ [j]) [] := { o3 with sl := paired_setn o3.sl [j] }
    exact { o4 with fr := same_new hA, fn := fun p hp => by simp at hp }
  rintro i m H2 ⟨rfl, hin, ps, ⟨b1, b2, b3, b4, b5, b6⟩, o2⟩
  by_cases hlt : i < n
  · have w' : Walk K H1 (A :: (ps ++ L)) I n item := w.more fun a ha => by
      rcases List.mem_cons.mp ha with z | z
      · rw [z]; exact .inr b1
      · rcases List.mem_append.mp z with z | z
        · exact .inr (b2 a z)
        · exact .inl z
    obtain ⟨go, hy⟩ := w'.turn o2 hlt
    refine .inr ⟨go, fun H' => i + 1 ≤ n ∧ ∃ ps, BagsAt K L H1 H' (i + 1) bd A ps ∧ Ok K H1 (A :: (ps ++ L)) (wipe σ [j]) H' (wp ρ [j]) [], fun H' p' => ⟨n - (i + 1), by omega, rfl, p'⟩, fun x H3 y => ?_⟩
    obtain ⟨o3, hx, s3⟩ := hy x H3 y
    refine hg i hlt _ _ _ H3 _ [] x o3 hx _ fun σ4 o4 ag hlen => ⟨?_, ?_⟩
    · rw [wipe_eq (by simp) ag hlen, wipe_idem]
    unfold tYes
    dsimp only
    rw [if_pos rfl]
    refine he i hlt _ _ σ4 H3 o4 _ fun p vs H4 hp o5 _ a5 h1 h2 => ?_
    rw [show ad ([] : Ms) = [] from rfl, hid_nil] at a5
    have s24 : Same H2 H4 := s3.trans a5
    have hp2 : H2 p = none := s3.free hp
    have hp1 : H1 p = none := o2.fr.free hp2
    have h4A : H4 A = some (.lst (ps.map V.ref)) := s24 _ _ b5
    have nA : A ≠ p := ne_of_none b5 hp2
    have nps : ∀ q ∈ ps, q ≠ p := fun q hq e => by
      have := o2.there (p := q) (List.mem_append_left _ (List.mem_cons_of_mem _ (List.mem_append_left _ hq)))
      rw [e] at this; exact this hp2
    have npA : ∀ q ∈ ps, q ≠ A := fun q hq e => by
      rw [List.nodup_cons] at b3; rw [e] at hq; exact b3.1 hq
    have per : ∀ a, a ∈ A :: ((ps ++ [p]) ++ L) ↔ a ∈ p :: (A :: (ps ++ L)) := fun a => by
      simp only [List.mem_cons, List.mem_append, List.not_mem_nil, or_false]
      constructor
      · rintro (z | (z | z) | z)
        · exact .inr (.inl z)
        · exact .inr (.inr (.inl z))
        · exact .inl z
        · exact .inr (.inr (.inr z))
      · rintro (z | z | z | z)
        · exact .inr (.inl (.inr z))
        · exact .inl z
        · exact .inr (.inl (.inl z))
        · exact .inr (.inr z)
    refine ⟨ps.map V.ref, h4A, by rw [List.length_map, b4]; exact line_lt (by omega), hlt, ps ++ [p], ⟨b1, ?_, ?_, by rw [List.length_append, b4]; rfl, by rw [List.map_append]; exact upd_same, ?_⟩, ?_⟩
    · intro q hq
      rcases List.mem_append.mp hq with z | z
      · exact b2 q z
      · have e : q = p := by simpa using z
        rw [e]; exact hp1
    · rw [List.nodup_cons] at b3 ⊢
      refine ⟨fun z => ?_, List.nodup_append.mpr ⟨b3.2, by simp, fun a ha b hb e => ?_⟩⟩
      · rcases List.mem_append.mp z with z | z
        · exact b3.1 z
        · exact nA (by simpa using z)
      · have e2 : b = p := by simpa using hb
        rw [e2] at e; exact nps a ha e
    · intro k q hk
      have hq : q ≠ A := fun e => by
        have hm := List.mem_of_getElem? hk
        rcases List.mem_append.mp hm with z | z
        · exact npA q z e
        · have e2 : q = p := by simpa using z
          exact nA (e.symm.trans e2)
      have hsub : ∀ (G : Hp), Same (hid (p :: (A :: (ps ++ L))) G) (hid (A :: ((ps ++ [p]) ++ L)) G) := fun G => hid_sub fun a ha => (per a).mp ha
      rw [hid_upd List.mem_cons_self]
      by_cases hk2 : k < ps.length
      · rw [List.getElem?_append_left hk2] at hk
        refine (b6 k q hk).mono (fun a z e => hsub _ _ _ ?_) ?_
        · obtain ⟨n1, e1⟩ := hid_some e
          refine hid_of (fun z2 => ?_) (s24 _ _ e1)
          rcases List.mem_cons.mp z2 with z2 | z2
          · rw [z2, hp2] at e1; cases e1
          · exact n1 z2
        · rw [upd_ne hq]
          obtain ⟨z, ez⟩ := (b6 k q hk).there
          rw [ez]; exact s24 _ _ ez
      · rw [List.getElem?_append_right (by omega)] at hk
        have hk3 : k - ps.length = 0 := by
          have := (List.getElem?_eq_some_iff.mp hk).1
          simp at this; omega
        rw [hk3] at hk
        have e : q = p := by simpa using hk.symm
        subst e
        have e3 : k = i := by omega
        subst e3
        refine ⟨vs, by rw [upd_ne hq]; exact h1, ?_⟩
        have h3 : DpAll K (hid (q :: (A :: (ps ++ L))) H4) vs (bd k) := by
          have := h2
          rw [show (A :: (ps ++ L)) ++ ad ([] : Ms) = A :: (ps ++ L) by simp] at this; exact this
        exact DpAll.mono (hsub _) h3
    · have o6 : Ok K H1 (A :: ((ps ++ [p]) ++ L)) σ4 H4 _ [] := o5.perm per
      have o7 : Ok K H1 (A :: ((ps ++ [p]) ++ L)) (wipe σ [j]) H4 (wp ρ [j]) [] :=
        { o6 with sl := Paired.mapP o2.sl fun _ _ q => q.mono (fun a z e => by
            obtain ⟨n1, e1⟩ := hid_some e
            refine hid_of (fun z2 => ?_) (s24 _ _ e1)
            simp only [ad, List.map_nil, List.append_nil] at z2 n1
            rcases List.mem_cons.mp ((per a).mp z2) with z2 | z2
            · rw [z2, hp2] at e1; cases e1
            · exact n1 z2) }
      exact o7.updL List.mem_cons_self b1 (by simp)
  · have e : i = n := by omega
    subst e
    refine .inl ⟨(w i H2 o2.fr).2 (Nat.le_refl _), ?_⟩
    refine q A ps H2 (sH1.trans o2.fr) ⟨hA0, fun p hp => sH1.free (b2 p hp), b3, b4, b5, b6⟩ ?_
    refine { o2 with sl := Paired.mapP o1.sl fun _ _ q => q.mono (fun a z e => ?_), fr := o1.fr.trans o2.fr, fn := fun p hp => by simp at hp }
    obtain ⟨n1, e1⟩ := hid_some e
    refine hid_of (fun z2 => ?_) (o2.fr _ _ e1)
    simp only [ad, List.map_nil, List.append_nil] at z2 n1
    rcases List.mem_cons.mp z2 with z2 | z2
    · rw [z2, b1] at e1; cases e1
    · rcases List.mem_append.mp z2 with z2 | z2
      · rw [b2 a z2] at e1; cases e1
      · exact n1 z2
/-- new things out of sight -/
theorem Ok.newL {N : List Addr} (o : Ok K F L σ H ρ M) (s : Same H H1) (hN : ∀ p ∈ N, H p = none ∧ H1 p ≠ none) : Ok K F (N ++ L) σ H1 ρ M := by
  have vis : Same (hid (L ++ ad M) H) (hid ((N ++ L) ++ ad M) H1) := fun a x e => by
    obtain ⟨n, e2⟩ := hid_some e
    refine hid_of (fun z => ?_) (s _ _ e2)
    rcases List.mem_append.mp z with z | z
    · rcases List.mem_append.mp z with z | z
      · rw [(hN a z).1] at e2; cases e2
      · exact n (List.mem_append_left _ z)
    · exact n (List.mem_append_right _ z)
  refine ⟨Paired.mapP o.sl fun _ _ q => q.mono vis, fun x hx => ?_, o.nd, o.fr.trans s, o.fn, fun a ha => ?_⟩
  · obtain ⟨y, e⟩ := (o.ob x hx).there
    exact (o.ob x hx).mono vis ((s _ _ e).trans e.symm)
  · rcases List.mem_append.mp ha with z | z
    · exact (hN a z).2
    · exact (o.mono s).lv a z
/-- a def that makes bags -/
def spB (K : PySem.W.Frag) (R : List PyData → Nat → (Nat → List PyData) → Prop) : Sp := fun vs H Q _ => ∃ L ds n bd, (∀ p ∈ L, H p ≠ none) ∧ DpAll K (hid L H) vs ds ∧ R ds n bd ∧ ∀ a ps H1, Same H H1 → BagsAt K L H H1 n bd a ps → Q (.ref a) H1
theorem evb_call {R : List PyData → Nat → (Nat → List PyData) → Prop} {E : XK} {bd : Nat → List PyData} (ha : EvD K tr ρ [] ds []) (hR : R ds n bd) : EvB K (tCall (spB K R) [] E tr) ρ n bd := fun F L σ H o Q q => ha F L σ H o _ fun vs H1 o1 e1 a1 x1 => by
  have sH1 : Same H H1 := by
    have h := a1
    rw [show ad ([] : Ms) = [] from rfl, hid_nil] at h; exact h
  refine ⟨L, ds, n, bd, fun p hp => o1.lv p hp, by rw [List.append_nil]; exact dpAll_of (by simpa using x1), hR, fun a ps H2 s2 hb => ?_⟩
  obtain ⟨b1, b2, b3, b4, b5, b6⟩ := hb
  refine q a ps H2 (sH1.trans s2) ⟨sH1.free b1, fun p hp => sH1.free (b2 p hp), b3, b4, b5, b6⟩ ?_
  have o2 := o1.newL (N := a :: ps) s2 fun p hp => by
    rcases List.mem_cons.mp hp with z | z
    · rw [z]; exact ⟨b1, by rw [b5]; exact fun z => nomatch z⟩
    · refine ⟨b2 p z, ?_⟩
      obtain ⟨k, hk⟩ := List.mem_iff_getElem?.mp z
      obtain ⟨y, e⟩ := (b6 k p hk).there
      rw [e]; exact fun z => nomatch z
  exact o2
/-- for bag in bags: .. -/
theorem q_bags {j : Nat} {bd : Nat → List PyData} (J : List Sl → Prop) (h : EvB K te ρ n bd) (h0 : J ρ)
    (hs : ∀ F' L' i p ρ (D' : Ends), i < n → J ρ → p ∈ L' → (∀ ρ M σ H, J ρ → Ok K F' L' σ H ρ M → D'.nx σ H) → ∀ σ H, Ok K F' L' σ H (ρ.set j (.loc (.ref p))) [(p, .lst (bd i))] → tu D' σ H)
    (hd : ∀ ρ, J ρ → ∀ σ H, Ok K F L σ H ρ [] → tv D σ H) (o : Ok K F L σ H ρ []) : tSeq (tFor (iList K te) (gName j) tu) tv D σ H := h F L σ H o _ fun a ps H1 sH1 hb o1 => by
  obtain ⟨b1, b2, b3, b4, b5, b6⟩ := hb
  have hFp : ∀ p ∈ ps, F p = none := fun p hp => o.fr.free (b2 p hp)
  refine ⟨a, rfl, ⟨ps.map V.ref, SqL.of b5⟩, for_list (K := K) (a := a) (xs := ps.map V.ref) (fun i σ H' => ∃ ρ L2, J ρ ∧ (∀ x, x ∈ a :: (ps ++ L) → x ∈ L2) ∧ Ok K F L2 σ H' ρ [] ∧ H' a = some (.lst (ps.map V.ref)) ∧ ∀ k (p : Addr), i ≤ k → ps[k]? = some p → MOk K (hid L2 H') H' p (.lst (bd k)))
    ⟨ρ, a :: (ps ++ L), h0, fun _ z => z, o1, b5, fun k p _ hk => b6 k p hk⟩ (fun i σ H' _ ⟨_, _, _, _, _, ha, _⟩ => SqL.of ha) ?_ ?_⟩
  · rintro i x σ2 H2 hx ⟨ρ2, L2, hJ, hL, o2, ha, hm⟩
    rw [List.getElem?_map] at hx
    cases hp : ps[i]? with
    | none => rw [hp] at hx; cases hx
    | some p =>
      rw [hp] at hx
      have ex : x = .ref p := (Option.some.inj hx).symm
      subst ex
      have pm : p ∈ ps := List.mem_of_getElem? hp
      have hi : i < n := by rw [← b4]; exact (List.getElem?_eq_some_iff.mp hp).1
      have pL : p ∈ L2 := hL p (List.mem_cons_of_mem _ (List.mem_append_left _ pm))
      have nap : a ≠ p := fun e => by rw [List.nodup_cons] at b3; rw [e] at b3; exact b3.1 pm
      have o3 : Ok K (hid [p] H2) L2 (σ2.set j (some (.ref p))) H2 (ρ2.set j (.loc (.ref p))) [(p, .lst (bd i))] := (Ok.set (s := .loc (.ref p)) o2 rfl).pick pL (hm i p (Nat.le_refl _) hp) (hid_in (by simp)) (hid_le _ _)
      refine hs (hid [p] H2) L2 i p ρ2 _ hi hJ pL (fun ρ3 M3 σ3 H3 hJ3 o4 => ?_) _ _ o3
      have o5 := o4.dropM
      have sF : Same F (hid [p] H2) := fun b y e => hid_of (fun z => by
        have e2 : b = p := by simpa using z
        rw [e2, hFp p pm] at e; cases e) (o2.fr b y e)
      refine ⟨ρ3, ad M3 ++ L2, hJ3, fun x hx => List.mem_append_right _ (hL x hx), o5.unfr sF, o4.fr _ _ (hid_of (by simpa using nap) ha), fun k q hk hq => ?_⟩
      have nqp : q ≠ p := fun e => by
        rw [List.nodup_cons] at b3
        have h1 := hq
        rw [e] at h1
        have := (List.getElem?_inj (List.getElem?_eq_some_iff.mp hp).1 b3.2).mp (hp.trans h1.symm)
        omega
      refine (hm k q (by omega) hq).mono (fun b y e => ?_) ?_
      · obtain ⟨n1, e1⟩ := hid_some e
        have nb : b ≠ p := fun z => n1 (by rw [z]; exact pL)
        have e2 : hid [p] H2 b = some y := hid_of (by simpa using nb) e1
        refine hid_of (fun z => ?_) (o4.fr _ _ e2)
        rcases List.mem_append.mp z with z | z
        · rw [o4.fn b z] at e2; cases e2
        · exact n1 z
      · obtain ⟨z, ez⟩ := (hm k q (by omega) hq).there
        rw [ez]; exact o4.fr _ _ (hid_of (by simpa using nqp) ez)
  · rintro σ2 H2 ⟨ρ2, L2, hJ, hL, o2, _, _⟩
    exact hd ρ2 hJ σ2 H2 (o2.less fun x hx => hL x (List.mem_cons_of_mem _ (List.mem_append_right _ hx)))
end
/-- a def that makes bags -/
theorem okB {P : Program} {w : World} {K : PySem.W.Frag} {mg : Str → Option Value} {base : Heap} {x qual : Str} {st : Stmt} {f : Addr} {fd : FuncData} {N ps : List Str} {k : Nat} {R : List PyData → Nat → (Nat → List PyData) → Prop} (Fn : Fun K x qual st f fd) (S : FnScope N ps (defScope st)) (hl : ∀ ds r bd, R ds r bd → ds.length = ps.length)
    (hb : ∀ cdv A outer s H E, Room k (A.deeper (envOfC qual (defScope st) s.heap.objs.size f cdv)) → ∃ t, PSs (cxOf CX0 P w K mg base N qual (defScope st) f cdv A outer s H E).nox (defBody st) t ∧
      ∀ ds n bd, R ds n bd → ∀ (F : Hp) L σ H (D : Ends), (∀ a ps H', Same H H' → BagsAt K L H H' n bd a ps → D.rt (.ref a) H') → Ok K F L σ H (st0 N (ds.map Sl.dat)) [] → t D σ H) :
    FnOk P w K mg base CX0 (k + 1) f fd ps (spB K R) := by
  refine Fn.ok S (fun vs H Q E h => ?_) (fun cdv A outer s H vs Q E hr h => ?_)
  · obtain ⟨L, ds, n, bd, lv, hd, hR, _⟩ := h
    rw [hd.length]; exact hl ds n bd hR
  · obtain ⟨L, ds, n, bd, lv, hd, hR, q⟩ := h
    obtain ⟨t, h1, h2⟩ := hb cdv A outer s H E hr
    exact ⟨t, h1, h2 ds n bd hR H L _ H _ (fun a ps H' s2 hB => q a ps H' s2 hB) (ok_start (of_dpAll (by simpa using hd)) lv (fun x hx => by cases hx) (by simp) (Same.refl H) (fun p hp => by simp at hp))⟩
end Wm

namespace Wm
open PySem L2 PySem.Spec PyProof.Rows
/-! ### data that may be compared -/
def Sh (n : Nat) (d : PyData) : Prop := d.canLay0 = true ∧ d.depth ≤ n
theorem Sh.shaped {n : Nat} {d : PyData} (h : Sh n d) (hn : n ≤ 64) : SeqAt.shaped d = true := by
  unfold SeqAt.shaped
  rw [h.1, decide_eq_true (Nat.le_trans h.2 hn)]; rfl
theorem sh_int {i : Int} : Sh 0 (.int i) := ⟨rfl, by simp [PyData.depth]⟩
theorem sh_bool {b : Bool} : Sh 0 (.bool b) := ⟨rfl, by simp [PyData.depth]⟩
theorem sh_none : Sh 0 .none := ⟨rfl, by simp [PyData.depth]⟩
theorem sh_str {x : Str} (h : PyData.strOk x = true) : Sh 0 (.str x) := ⟨by simpa [PyData.canLay0] using h, by simp [PyData.depth]⟩
theorem sh_all {n : Nat} : ∀ {ds : List PyData}, (∀ d ∈ ds, Sh n d) → PyData.canLayAll0 ds = true ∧ PyData.depthAll ds ≤ n
  | [], _ => ⟨rfl, by simp [PyData.depthAll]⟩
  | d :: ds, h => by
    obtain ⟨h1, h2⟩ := h d List.mem_cons_self
    obtain ⟨h3, h4⟩ := sh_all (ds := ds) fun e he => h e (List.mem_cons_of_mem _ he)
    refine ⟨by simp [PyData.canLayAll0, h1, h3], ?_⟩
    simp only [PyData.depthAll]; omega
theorem sh_list {n : Nat} {ds : List PyData} (h : ∀ d ∈ ds, Sh n d) : Sh (n + 1) (.list ds) := by
  obtain ⟨h1, h2⟩ := sh_all h
  exact ⟨by simpa [PyData.canLay0] using h1, by simp only [PyData.depth]; omega⟩
theorem sh_tuple {n : Nat} {ds : List PyData} (h : ∀ d ∈ ds, Sh n d) : Sh (n + 1) (.tuple ds) := by
  obtain ⟨h1, h2⟩ := sh_all h
  exact ⟨by simpa [PyData.canLay0] using h1, by simp only [PyData.depth]; omega⟩
theorem Sh.mono {m n : Nat} {d : PyData} (h : Sh m d) (e : m ≤ n) : Sh n d := ⟨h.1, Nat.le_trans h.2 e⟩
theorem sh_map {α : Type} {n : Nat} {f : α → PyData} {xs : List α} (h : ∀ x ∈ xs, Sh n (f x)) : ∀ d ∈ xs.map f, Sh n d := fun d hd => by
  obtain ⟨x, hx, rfl⟩ := List.mem_map.mp hd
  exact h x hx
theorem sh_dI {xs : List Int} : Sh 1 (.list (xs.map PyData.int)) := sh_list (sh_map fun _ _ => sh_int)
theorem sh_dTI {xs : List Int} : Sh 1 (.tuple (xs.map PyData.int)) := sh_tuple (sh_map fun _ _ => sh_int)
theorem sh_dS {ws : List Str} (h : ∀ w ∈ ws, PyData.strOk w = true) : Sh 1 (.list (ws.map PyData.str)) := sh_list (sh_map fun w hw => sh_str (h w hw))
theorem sh_dTS {ws : List Str} (h : ∀ w ∈ ws, PyData.strOk w = true) : Sh 1 (.tuple (ws.map PyData.str)) := sh_tuple (sh_map fun w hw => sh_str (h w hw))
/-! ### == -/
theorem eqv_int (i j : Int) : PyData.eqv (.int i) (.int j) = decide (i = j) := by simp [PyData.eqv, Bool.beq_eq_decide_eq]
theorem eqv_str (i j : Str) : PyData.eqv (.str i) (.str j) = decide (i = j) := by simp [PyData.eqv, Bool.beq_eq_decide_eq]
theorem eqv_all {α : Type} [DecidableEq α] {f : α → PyData} (hf : ∀ x y, PyData.eqv (f x) (f y) = decide (x = y)) : ∀ xs ys : List α, PyData.eqvAll (xs.map f) (ys.map f) = decide (xs = ys)
  | [], [] => by simp [PyData.eqvAll]
  | [], _ :: _ => by simp [PyData.eqvAll]
  | _ :: _, [] => by simp [PyData.eqvAll]
  | x :: xs, y :: ys => by
    simp only [List.map_cons, PyData.eqvAll, hf, eqv_all hf xs ys]
    by_cases h : x = y <;> by_cases h' : xs = ys <;> simp [h, h']
theorem eqv_list {α : Type} [DecidableEq α] {f : α → PyData} (hf : ∀ x y, PyData.eqv (f x) (f y) = decide (x = y)) (xs ys : List α) : PyData.eqv (.list (xs.map f)) (.list (ys.map f)) = decide (xs = ys) := by
  simp only [PyData.eqv]; exact eqv_all hf xs ys
theorem eqv_tuple {α : Type} [DecidableEq α] {f : α → PyData} (hf : ∀ x y, PyData.eqv (f x) (f y) = decide (x = y)) (xs ys : List α) : PyData.eqv (.tuple (xs.map f)) (.tuple (ys.map f)) = decide (xs = ys) := by
  simp only [PyData.eqv]; exact eqv_all hf xs ys
theorem eqv_dI (xs ys : List Int) : PyData.eqv (.list (xs.map PyData.int)) (.list (ys.map PyData.int)) = decide (xs = ys) := eqv_list eqv_int xs ys
theorem eqv_dS (xs ys : List Str) : PyData.eqv (.list (xs.map PyData.str)) (.list (ys.map PyData.str)) = decide (xs = ys) := eqv_list eqv_str xs ys
theorem eqv_dTI (xs ys : List Int) : PyData.eqv (.tuple (xs.map PyData.int)) (.tuple (ys.map PyData.int)) = decide (xs = ys) := eqv_tuple eqv_int xs ys
theorem eqv_dTS (xs ys : List Str) : PyData.eqv (.tuple (xs.map PyData.str)) (.tuple (ys.map PyData.str)) = decide (xs = ys) := eqv_tuple eqv_str xs ys
section
variable {K : PySem.W.Frag} {ρ ρ' : List Sl} {M M' M1 M2 M3 : Ms} {tt tu : TT} {ta tb : TE}
theorem et_andF (h1 : EvT K tt ρ M false M1) : EvT K (tAnd tt tu) ρ M false M1 := fun F L σ H o Q q => h1 F L σ H o _ fun H1 o1 e1 a1 => q H1 o1 e1 a1
theorem et_andT {b : Bool} (h1 : EvT K tt ρ M true M1) (h2 : EvT K tu ρ M1 b M2) : EvT K (tAnd tt tu) ρ M b M2 := fun F L σ H o Q q => h1 F L σ H o _ fun H1 o1 e1 a1 => h2 F L σ H1 o1 _ fun H2 o2 e2 a2 => q H2 o2 (e2.trans e1) (chain2 e1 a1 a2)
theorem et_orT (h1 : EvT K tt ρ M true M1) : EvT K (tOr tt tu) ρ M true M1 := fun F L σ H o Q q => h1 F L σ H o _ fun H1 o1 e1 a1 => q H1 o1 e1 a1
theorem et_orFM {b : Bool} (h1 : EvT K tt ρ M false M1) (h2 : EvT K tu ρ M1 b M2) : EvT K (tOr tt tu) ρ M b M2 := fun F L σ H o Q q => h1 F L σ H o _ fun H1 o1 e1 a1 => h2 F L σ H1 o1 _ fun H2 o2 e2 a2 => q H2 o2 (e2.trans e1) (chain2 e1 a1 a2)
theorem ev_iteT (h : EvT K tt ρ M true M1) {s : Sl} (h1 : Ev K ta ρ M1 s M2) : Ev K (tIf tt ta tb) ρ M s M2 := fun F L σ H o Q q => h F L σ H o _ fun H1 o1 e1 a1 => h1 F L σ H1 o1 _ fun v H2 o2 e2 a2 x2 => q v H2 o2 (e2.trans e1) (chain2 e1 a1 a2) (by rw [e1] at x2; exact x2)
theorem ev_iteF (h : EvT K tt ρ M false M1) {s : Sl} (h1 : Ev K tb ρ M1 s M2) : Ev K (tIf tt ta tb) ρ M s M2 := fun F L σ H o Q q => h F L σ H o _ fun H1 o1 e1 a1 => h1 F L σ H1 o1 _ fun v H2 o2 e2 a2 x2 => q v H2 o2 (e2.trans e1) (chain2 e1 a1 a2) (by rw [e1] at x2; exact x2)
theorem ev_ifM {b : Bool} (h : EvT K tt ρ M b M1) {s : Sl} (h1 : b = true → Ev K ta ρ M1 s M2) (h2 : b = false → Ev K tb ρ M1 s M2) : Ev K (tIf tt ta tb) ρ M s M2 := by
  cases b with
  | true => exact ev_iteT h (h1 rfl)
  | false => exact ev_iteF h (h2 rfl)
end
section
variable {K : PySem.W.Frag} {F F' H H' H0 H1 : Hp} {L : List Addr} {σ σ' : L2.St} {ρ ρ' : List Sl} {M M' M1 M2 M3 Mn : Ms}
variable {te ta tb tc ti : TE} {tt : TT} {tr : TA} {s s1 s2 : Sl} {ss : List Sl} {d d1 d2 d3 : PyData} {ds es : List PyData} {D : Ends} {tu tw tv : TS} {g : TG} {wi : TI} {n : Nat} {item : Nat → PyData}
/-- a name for a new list that will change; it is not of L -/
theorem s_asgNF {i : Nat} (h : EvN K te ρ M ds M1) (k : ∀ p σ H, p ∉ L → Ok K F L σ H (ρ.set i (.loc (.ref p))) (M1 ++ [(p, .lst ds)]) → D.nx σ H) (o : Ok K F L σ H ρ M) : tAsg te (gName i) D σ H := h F L σ H o _ fun p vs H1 hp o1 e1 a1 h1 h2 => by
  have hm : p ∉ ad M1 := by rw [e1]; exact mem_ad_of (Q := fun _ => True) o hp
  have hf : F p = none := o.fr.free hp
  have hL : p ∉ L := fun z => o.fresh hp (List.mem_append_left _ z)
  refine k p _ _ hL (Ok.set (Ok.add o1.lift ?_ ?_ hm hf ?_) rfl)
  · exact o1.sl
  · exact o1.ob
  · exact ⟨vs, h1, by rw [e1]; exact h2⟩
theorem q_asgNF {i : Nat} (h : EvN K te ρ M ds M1) (k : ∀ p σ H, p ∉ L → Ok K F L σ H (ρ.set i (.loc (.ref p))) (M1 ++ [(p, .lst ds)]) → tv D σ H) (o : Ok K F L σ H ρ M) : tSeq (tAsg te (gName i)) tv D σ H := s_asgNF (D := { D with nx := tv D }) h k o
theorem s_retTrue (h : Ev K te ρ M (.dat (.bool true)) M1) (k : ∀ H1, D.rt (.bl true) H1) (o : Ok K F L σ H ρ M) : tRet te D σ H := s_ret h (fun v H1 _ x1 => by rw [bl_of x1]; exact k H1) o
end
section
variable {K : PySem.W.Frag} {ρ ρ' : List Sl} {M M' M1 M2 M3 : Ms} {te : TE} {wi : TI} {n : Nat} {item item' : Nat → PyData}
theorem EvI.congr (h : EvI K wi ρ M n item M1) (e : ∀ i, i < n → item i = item' i) : EvI K wi ρ M n item' M1 := fun F L σ H o R q => h F L σ H o R fun J H1 o1 e1 a1 w => q J H1 o1 e1 a1 fun i G sG => ⟨fun hi => by
  obtain ⟨h1, h2⟩ := (w i G sG).1 hi
  rw [← e i hi]
  exact ⟨h1, h2⟩, (w i G sG).2⟩
theorem ei_listI {ns : List Int} (h : Ev K te ρ M (.dat (.list (ns.map PyData.int))) M1) : EvI K (iList K te) ρ M ns.length (fun i => .int (ns.getD i 0)) M1 := by
  have h1 := ei_list h
  rw [List.length_map] at h1
  exact h1.congr fun i hi => getD_map_int ns i hi
theorem ei_tupI {ns : List Int} (h : Ev K te ρ M (.dat (.tuple (ns.map PyData.int))) M1) : EvI K (iTup K te) ρ M ns.length (fun i => .int (ns.getD i 0)) M1 := by
  have h1 := ei_tup h
  rw [List.length_map] at h1
  exact h1.congr fun i hi => getD_map_int ns i hi
theorem ei_listS {ns : List Str} (h : Ev K te ρ M (.dat (.list (ns.map PyData.str))) M1) : EvI K (iList K te) ρ M ns.length (fun i => .str (ns.getD i Str.empty)) M1 := by
  have h1 := ei_list h
  rw [List.length_map] at h1
  exact h1.congr fun i hi => getD_map_str ns i hi
end
/-- law's: a list of at most 63 ints is handed in, True comes out -/
def spLaw (K : PySem.W.Frag) : Sp := fun vs H Q _ => ∃ (a : Addr) (ns : List Int), vs = [.ref a] ∧ SqL K H a (ns.map V.int) ∧ ns.length ≤ 63 ∧ ∀ H', Q (.bl true) H'
theorem okLaw {P : Program} {w : World} {K : PySem.W.Frag} {mg : Str → Option Value} {base : Heap} {x qual : Str} {st : Stmt} {f : Addr} {fd : FuncData} {N ps : List Str} {k : Nat} (Fn : Fun K x qual st f fd) (S : FnScope N ps (defScope st)) (hl : ps.length = 1)
    (hb : ∀ cdv A outer s H E, Room k (A.deeper (envOfC qual (defScope st) s.heap.objs.size f cdv)) → ∃ t, PSs (cxOf CX0 P w K mg base N qual (defScope st) f cdv A outer s H E).nox (defBody st) t ∧
      ∀ xs : List Int, xs.length ≤ 63 → ∀ (F : Hp) L σ H (D : Ends), (∀ H', D.rt (.bl true) H') → Ok K F L σ H (st0 N [.dat (dScr xs)]) [] → t D σ H) :
    FnOk P w K mg base CX0 (k + 1) f fd ps (spLaw K) := by
  refine Fn.ok S (fun vs H Q E h => ?_) (fun cdv A outer s H vs Q E hr h => ?_)
  · obtain ⟨a, ns, rfl, _⟩ := h
    rw [hl]; rfl
  · obtain ⟨a, ns, rfl, hS, hl, q⟩ := h
    obtain ⟨t, h1, h2⟩ := hb cdv A outer s H E hr
    refine ⟨t, h1, h2 ns hl H [] _ H _ q (ok_start (.cons ?_ .nil) (fun p hp => by simp at hp) (fun x hx => by cases hx) (by simp) (Same.refl H) (fun p hp => by simp at hp))⟩
    show Dp K (hid ([] ++ ad []) H) (.ref a) (dScr ns)
    rw [show ([] : List Addr) ++ ad [] = [] from rfl, hid_nil]
    exact .scr hS
end Wm

namespace Wm
open PySem L2 PySem.Spec PyProof.Rows
/-! the rules that name the written part, with it written out -/
section
variable {X : Cx} {K' : PySem.W.Frag} (hK : X.K = K')
include hK
theorem w_eqD (hu : X.A.units + 64 < cLine) : OpR X (compareOp .Eq) (rEqD K') := hK ▸ op_eqD hu
theorem w_neD (hu : X.A.units + 64 < cLine) : OpR X (compareOp .NotEq) (rNeD K') := hK ▸ op_neD hu
theorem w_in : OpR X (compareOp .In) (rIn K' false) := hK ▸ op_in_seq
theorem w_notIn : OpR X (compareOp .NotIn) (rIn K' true) := hK ▸ op_notIn_seq
theorem w_ixL : IxR X (rIxL K') := hK ▸ ix_list
theorem w_ixT : IxR X (rIxT K') := hK ▸ ix_tup
theorem w_slL : SlR X (rSlL K') := hK ▸ sl_list
theorem w_slT : SlR X (rSlT K') := hK ▸ sl_tup
theorem w_len : CallR X (.builtin "len") (rLen K') := hK ▸ c_len
theorem w_list : CallR X (.type "list") (rListOf K') := hK ▸ c_list
theorem w_isi : CallR X (.builtin "isinstance") (rIsi K') := hK ▸ call_isi
theorem w_all (hc : X.calm = true) : CallR X (.builtin "all") (rAll K') := hK ▸ cr_all hc
theorem w_max (hc : X.calm = true) : CallR X (.builtin "max") (rMax K') := hK ▸ cr_max hc
theorem w_min (hc : X.calm = true) : CallR X (.builtin "min") (rMin K') := hK ▸ cr_min hc
theorem wi_list {tg l : Expr} {tl : TE} (hl : PE X l tl) : PI X tg l (iList K' tl) := hK ▸ pi_list hl
theorem wi_tup {tg l : Expr} {tl : TE} (hl : PE X l tl) : PI X tg l (iTup K' tl) := hK ▸ pi_tup hl
theorem wi_enum {e : Expr} {ta : TA} {p pos tpos : Pos} {elts : List Expr} {kk : Nat} (hg : Gl X "enumerate") (hm : X.mg "enumerate" = none) (ha : PA X [e] ta) (hs : starEach [e] X.env = [(false, eval e X.env)] := by rfl) :
    PI X (.Tuple elts kk tpos) (.Call (.Name "enumerate" p) [e] [] pos) (iEnum K' ta) := hK ▸ pi_enum hg hm ha hs
theorem wi_zip {e e2 : Expr} {ta : TA} {p pos tpos : Pos} {elts : List Expr} {kk : Nat} (hg : Gl X "zip") (hm : X.mg "zip" = none) (ha : PA X [e, e2] ta)
    (hs : starEach [e, e2] X.env = (false, eval e X.env) :: starEach [e2] X.env := by rfl) (hpl : (backTo pos (starEach [e2] X.env)).any (·.1) = false := by rfl) :
    PI X (.Tuple elts kk tpos) (.Call (.Name "zip" p) [e, e2] [] pos) (iZip K' ta) := hK ▸ pi_zip hg hm ha hs hpl
theorem we_tupleOf {a : Expr} {ta : TE} {p pos : Pos} (hg : Gl X "tuple") (hm : X.mg "tuple" = none) (ha : PE X a ta) (na : starEach [a] X.env = (false, eval a X.env) :: starEach [] X.env := by rfl) :
    PE X (.Call (.Name "tuple" p) [a] [] pos) (tThen ta (kTup K')) := hK ▸ pe_tupleOf hg hm ha na
end
section
variable {K : PySem.W.Frag} {ρ ρ' : List Sl} {M M' M1 M2 M3 : Ms} {te : TE} {tr : TA} {wi : TI} {n : Nat} {item item' : Nat → PyData}
theorem ei_zipS {xs ys : List Str} (h : EvA K tr ρ M [.dat (.list (xs.map PyData.str)), .dat (.list (ys.map PyData.str))] M1) : EvI K (iZip K tr) ρ M (min xs.length ys.length) (fun i => .tuple [.str (xs.getD i Str.empty), .str (ys.getD i Str.empty)]) M1 := by
  have h1 := ei_zip h
  rw [List.length_map, List.length_map] at h1
  exact h1.congr fun i hi => by rw [getD_map_str xs i (by omega), getD_map_str ys i (by omega)]
theorem ei_zipI {xs ys : List Int} (h : EvA K tr ρ M [.dat (.list (xs.map PyData.int)), .dat (.list (ys.map PyData.int))] M1) : EvI K (iZip K tr) ρ M (min xs.length ys.length) (fun i => .tuple [.int (xs.getD i 0), .int (ys.getD i 0)]) M1 := by
  have h1 := ei_zip h
  rw [List.length_map, List.length_map] at h1
  exact h1.congr fun i hi => by rw [getD_map_int xs i (by omega), getD_map_int ys i (by omega)]
theorem ei_enumI {xs : List Int} (h : EvA K tr ρ M [.dat (.list (xs.map PyData.int))] M1) : EvI K (iEnum K tr) ρ M xs.length (fun i => .tuple [.int (i : Nat), .int (xs.getD i 0)]) M1 := by
  have h1 := ei_enum h
  rw [List.length_map] at h1
  exact h1.congr fun i hi => by rw [getD_map_int xs i hi]
theorem ei_enumS {xs : List Str} (h : EvA K tr ρ M [.dat (.list (xs.map PyData.str))] M1) : EvI K (iEnum K tr) ρ M xs.length (fun i => .tuple [.int (i : Nat), .str (xs.getD i Str.empty)]) M1 := by
  have h1 := ei_enum h
  rw [List.length_map] at h1
  exact h1.congr fun i hi => by rw [getD_map_str xs i hi]
end
/-! ### the least of a list -/
def lmin : List Int → Int
  | [] => 0
  | [x] => x
  | x :: y :: r => min x (lmin (y :: r))
theorem lmin_mem : ∀ {l : List Int}, l ≠ [] → lmin l ∈ l
  | [], h => absurd rfl h
  | [x], _ => by simp [lmin]
  | x :: y :: r, _ => by
    have ih := lmin_mem (l := y :: r) (by simp)
    unfold lmin
    rcases Int.le_total x (lmin (y :: r)) with h | h
    · rw [Int.min_eq_left h]; exact List.mem_cons_self
    · rw [Int.min_eq_right h]; exact List.mem_cons_of_mem _ ih
theorem lmin_le : ∀ {l : List Int} {x : Int}, x ∈ l → lmin l ≤ x
  | [], _, h => by simp at h
  | [x], y, h => by
    have e : y = x := by simpa using h
    rw [e]; exact Int.le_refl _
  | x :: y :: r, z, h => by
    unfold lmin
    rcases List.mem_cons.mp h with e | h
    · rw [e]; exact Int.min_le_left _ _
    · exact Int.le_trans (Int.min_le_right _ _) (lmin_le h)
theorem eqv_self {n : Nat} {d : PyData} (h : Sh n d) : PyData.eqv d d = true := SeqAt.eqv_refl d h.1
end Wm

/-! slices of tuples, whole and turned; two names at once, one of them a new list. -/
namespace Wm
open PySem L2 PySem.Spec PyProof.Rows HT
section
variable {prog : Program} {w : World} {A : Around} {E : Value → Shared → Prop} {s : Shared}
theorem rev_places (n : Nat) : Builtin.Slice.slicePlaces ((n : Int) - 1) (-1) (-1) = n := by
  unfold Builtin.Slice.slicePlaces
  rw [if_neg (by decide)]
  by_cases h : ((n : Int) - 1) > -1
  · rw [if_pos h]
    have e : ((n : Int) - 1 - (-1) - 1) / -(-1 : Int) = (n : Int) - 1 := by
      rw [show -(-1 : Int) = 1 by decide, Int.ediv_one]; omega
    rw [e]; omega
  · rw [if_neg h]; omega
theorem fm_congr {α β : Type} {f g : α → Option β} : ∀ {l : List α}, (∀ k ∈ l, f k = g k) → l.filterMap f = l.filterMap g
  | [], _ => rfl
  | a :: l, h => by rw [List.filterMap_cons, List.filterMap_cons, h a List.mem_cons_self, fm_congr fun k hk => h k (List.mem_cons_of_mem _ hk)]
theorem rev_pick (xs : Array Value) : ((List.range xs.size).filterMap fun (k : Nat) => xs[((xs.size : Int) - 1 + (k : Int) * (-1)).toNat]?).toArray = xs.toList.reverse.toArray := by
  congr 1
  have e : ∀ k ∈ List.range xs.size, xs[((xs.size : Int) - 1 + (k : Int) * (-1)).toNat]? = xs.toList.reverse[k]? := fun k hk => by
    have hk' := List.mem_range.mp hk
    have z : ((xs.size : Int) - 1 + (k : Int) * (-1)).toNat = xs.size - 1 - k := by omega
    rw [z, List.getElem?_reverse (by rw [Array.length_toList]; exact hk'), Array.getElem?_toList, Array.length_toList]
  rw [fm_congr e]
  have gen : ∀ (l : List Value), (List.range l.length).filterMap (fun k => l[k]?) = l := fun l => by
    induction l with
    | nil => rfl
    | cons a l ih =>
      rw [List.length_cons, List.range_succ_eq_map, List.filterMap_cons_some (b := a) (by rfl), List.filterMap_map]
      refine congrArg (a :: ·) (Eq.trans ?_ ih)
      rfl
  have := gen xs.toList.reverse
  rwa [List.length_reverse, Array.length_toList] at this
theorem sliceApplied_rev {sl : Addr} {vs : Value} {n : Nat} {Q : Int × Int × Nat → Shared → Prop} (hs : s.heap.IsSliceOf sl .none .none vs) (ps : IsPart vs (some (-1)))
    (h : Q ((n : Int) - 1, -1, n) s) : wpAny (model prog w) A (Builtin.Slice.sliceApplied (.ref sl) (pure (n : Int))) Q E s := by
  obtain ⟨os, hos, hcs, hds⟩ := id hs
  unfold Builtin.Slice.sliceApplied Builtin.Slice.sliceFields
  refine wpAny_bind (wpAny_bind (wpAny_field hos hds (x := .none) rfl (wpAny_bind (wpAny_field hos hds (x := .none) rfl (wpAny_bind (wpAny_field hos hds (x := vs) rfl (wpAny_pure ?_)))))))
  refine wpAny_bind (slicePart_ ps ?_)
  show wpAny _ _ (if ((-1 : Int) == 0) = true then _ else _) _ _ s
  rw [if_neg (by decide)]
  refine wpAny_bind (slicePart_none (wpAny_bind (slicePart_none (wpAny_bind (wpAny_pure ?_)))))
  show wpAny _ _ (pure ((n : Int) - 1, (-1 : Int), Builtin.Slice.slicePlaces ((n : Int) - 1) (-1) (-1))) _ _ s
  rw [rev_places]
  exact wpAny_pure h
theorem getItem_tuple_rev {t sl : Addr} {items : Array Value} {vs : Value} {Q : Value → Shared → Prop} (ht : IsTup s.heap t items) (hs : s.heap.IsSliceOf sl .none .none vs) (ps : IsPart vs (some (-1)))
    (h : Q (.ref s.heap.objs.size) { s with heap := s.heap.push { cls := .type "tuple", data := .seq items.toList.reverse.toArray } })
    (hsz : items.size ≤ sizeLine) : wpAny (model prog w) A (getItem (.ref t) (.ref sl)) Q E s := by
  have hz : sizeOk (.seq items.toList.reverse.toArray) := by
    show items.toList.reverse.toArray.size ≤ sizeLine
    rw [List.size_toArray, List.length_reverse, Array.length_toList]; exact hsz
  obtain ⟨os, hos, hcs, hds⟩ := id hs
  have hTs : s.TypeIs (.ref sl) "slice" := ⟨os, hos, hcs⟩
  unfold getItem
  try with_reducible refine wpAny_holding ?_
  first | refine wpAny_bind (wpAny_pure ?_) | skip
  refine wpAny_bind (wpAny_sequenceKey ht.typeIs (by decide) ?_)
  refine wpAny_bind (wpAny_callSpecial?_slot (name := Str.ofString "__getitem__") ht.typeIs PyProof.Rows.slot_tuple_getitem
    (wpAny_call_entry PyProof.Rows.slot_tuple_getitem ht.typeIs entry_tuple_getitem ?_ (args_tuple_getitem _ _)))
  show wpAny _ _ (Builtin.Tuple.tupleItemsOf (.ref t) >>= _) _ _ s
  refine wpAny_bind (tupleItemsOf_ ht ?_)
  refine wpAny_bind (wpAny_typeOf hTs ?_)
  rw [if_pos (by decide)]
  refine wpAny_bind (sliceApplied_rev hs ps ?_)
  have hno : ¬ (((items.size : Int) - 1 == 0 && (-1 : Int) == 1 && items.size == items.size) = true) := by
    rw [show ((-1 : Int) == 1) = false by decide, Bool.and_false, Bool.false_and]; decide
  show wpAny _ _ (if ((items.size : Int) - 1 == 0 && (-1 : Int) == 1 && items.size == items.size) = true then _ else _) _ _ s
  rw [if_neg hno, rev_pick]
  first
    | exact wpAny_bind (m := Builtin.Tuple.tupleExact _) (wpAny_newObj_type (wpAny_pure ⟨_, rfl, wpAny_pure h⟩) hz)
    | exact wpAny_bind (m := Builtin.Tuple.tupleExact _) (wpAny_newObj_type (wpAny_bind (wpAny_pure (wpAny_pure ⟨_, rfl, wpAny_pure h⟩))) hz)
    | exact wpAny_bind (wpAny_bind (m := Builtin.Tuple.tupleExact _) (wpAny_newObj_type (wpAny_pure (wpAny_pure ⟨_, rfl, wpAny_pure h⟩)) hz))
    | exact wpAny_bind (wpAny_bind (m := Builtin.Tuple.tupleExact _) (wpAny_newObj_type (wpAny_pure ⟨_, rfl, wpAny_pure h⟩) hz))
end
theorem sw_two {x y : Str} {px py pt pt2 : Pos} {a b : PySem.Expr} {kt k2 : _} {env : Env} (hk : env.scope.kind = .function) (hx : env.scope.names.lookup x = some .local) (hy : env.scope.names.lookup y = some .local) (hl : (py.line == px.line) = true) (hne : (x == y) = false)
    (hs : ([a, b].any fun | .Starred .. => true | _ => false) = false) (h1 : [a, b].all (foldedForSure 8) = false) (h2 : [a, b].all (constantsAlone 8) = false) :
    swappedStores [.Tuple [.Name x px, .Name y py] kt pt] (.Tuple [a, b] k2 pt2) env = pure (some [x, y]) := by
  have kx : env.kindOf x = some .local := hx
  have ky : env.kindOf y = some .local := hy
  have hb : env.blockKind = .function := by unfold Env.blockKind; rw [hk]; rfl
  have hyx : (y == x) = false := by
    cases e : y == x with
    | false => rfl
    | true => rw [eq_of_beq e, beq_self_eq_true] at hne; cases hne
  have e1 : [PySem.Expr.Name x px, .Name y py].filterMap (fun
    | .Name id pos => if env.kindOf id == some .local && pos.line == px.line then some id else none
    | _ => none) = [x, y] := by
    simp only [List.filterMap_cons, kx, ky, beq_self_eq_true, Bool.true_and, hl, if_true, List.filterMap_nil]
  have e2 : [x, y].eraseDups = [x, y] := by
    rw [List.eraseDups_cons, List.filter_cons]
    simp [hyx, List.eraseDups_cons]
  unfold swappedStores
  dsimp only
  refine (if_neg ?_).trans ((if_neg ?_).trans ((if_neg ?_).trans ((if_neg ?_).trans ((if_neg ?_).trans ?_))))
  · rw [hb]; exact fun z => nomatch z
  · rw [Bool.not_eq_true]; exact hs
  · refine (congrArg (fun l : List Str => ¬ (l.length != 2 || l.eraseDups.length != l.length) = true) e1).mpr ?_
    rw [e2]; exact fun z => nomatch z
  · rw [Bool.not_eq_true]; exact h1
  · rw [Bool.not_eq_true]; exact h2
  · exact congrArg (fun l : List Str => (pure (some l) : Sem _)) e1
section
variable {X : Cx}
def tRevT (K : PySem.W.Frag) (te : TE) : TE := fun σ H Q => te σ H fun x H1 => ∃ a xs, x = .ref a ∧ SqT K H1 a xs ∧ ∀ p, H1 p = none → Q (.ref p) (upd H1 p (.tup xs.reverse))
theorem pe_revT {e : PySem.Expr} {te : TE} {k : Nat} {p1 p2 p3 pos : Pos} (he : PE X e te) : PE X (.Subscript e (.Slice none none (some (.UnaryOp .USub (.Constant (.int 1) k p1) p2)) p3) pos) (tRevT X.K te) := by
  refine ⟨fun pins s σ H Q I h => ?_⟩
  refine Subscript_ (thn (he.run pins s σ H _ I h) fun v s1 ⟨x, H1, I1, r1, q1⟩ => ?_)
  obtain ⟨a, xs, ex, hx, q⟩ := q1
  subst ex
  cases r1
  have hst : PO X (some (.UnaryOp .USub (.Constant (.int 1) k p1) p2)) (tPart (tUn (rU fun i => .int (-i)) (tC (.int 1)))) := po_some (pe_un un_neg pe_int)
  refine wpAny_Slice (thn (po_none.run pins s1 σ H1 (fun o H2 => o = none ∧ H2 = H1) I1 ⟨rfl, rfl⟩) fun vl s2 ⟨l, H2, I2, pl, el, e2⟩ => ?_)
  subst el e2
  cases pl
  refine thn (po_none.run pins s2 σ H2 (fun o H3 => o = none ∧ H3 = H2) I2 ⟨rfl, rfl⟩) fun vu s3 ⟨u, H3, I3, pu, eu, e3⟩ => ?_
  subst eu e3
  cases pu
  refine thn (hst.run pins s3 σ H3 (fun o H4 => o = some (-1) ∧ H4 = H3) I3 ⟨1, rfl, -1, rfl, rfl, rfl⟩) fun vs s4 ⟨o, H4, I4, ps, eo, e4⟩ => ?_
  subst eo e4
  have I5 : Inv X pins σ H4 { s4 with heap := s4.heap.push { cls := .type "slice", data := .fields #[.none, .none, vs] } } := I4.kept (t' := s4.toks) fun b ob q => Heap.get?_push_of_some _ q
  obtain ⟨its, r, ht, hz⟩ := I5.tuple hx
  have hlen : its.toArray.size = xs.length := by rw [List.size_toArray]; exact r.length.symm
  show wpAny (model X.prog X.w) X.A (subscriptTail e (.Slice none none (some (.UnaryOp .USub (.Constant (.int 1) k p1) p2)) p3) (.ref a) (.ref s4.heap.objs.size)) (EP X pins σ Q) X.xe { s4 with heap := s4.heap.push { cls := .type "slice", data := .fields #[.none, .none, vs] } }
  refine tail_any (ops := [.ref a, .ref s4.heap.objs.size]) ht.typeIs (PyProof.Rows.slot_tuple_getitem.lookup) ?_ (by with_unfolding_all rfl)
  refine getItem_tuple_rev ht (Heap.IsSliceOf.new _ .none .none vs) ps ?_ (by rw [hlen]; exact hz)
  refine ⟨.ref _, _, I5.laid (t' := s4.toks) (o := .tup xs.reverse) (fun b ob q => Heap.get?_push_of_some _ q) (Nat.le_refl _) ?_, rfl, q _ (I5.hok.fresh (Nat.le_refl _))⟩
  exact ⟨by rw [List.length_reverse]; exact hz, _, by simpa using r.reverse, IsTup.new _ _⟩
variable {K' : PySem.W.Frag} (hK : X.K = K')
include hK
theorem w_slA : SlR X (rSlA K') := hK ▸ sl_tupA
theorem we_revT {e : PySem.Expr} {te : TE} {k : Nat} {p1 p2 p3 pos : Pos} (he : PE X e te) : PE X (.Subscript e (.Slice none none (some (.UnaryOp .USub (.Constant (.int 1) k p1) p2)) p3) pos) (tRevT K' te) := hK ▸ pe_revT he
theorem we_revL {e : PySem.Expr} {te : TE} {k : Nat} {p1 p2 p3 pos : Pos} (he : PE X e te) : PE X (.Subscript e (.Slice none none (some (.UnaryOp .USub (.Constant (.int 1) k p1) p2)) p3) pos) (tRevL K' te) := hK ▸ pe_revL he
end
section
variable {K : PySem.W.Frag} {F F' H H' H0 H1 : Hp} {L : List Addr} {σ : L2.St} {ρ ρ' : List Sl} {M M' M1 M2 M3 : Ms}
variable {te ta tb tc ti : TE} {tt : TT} {tr : TA} {s s1 s2 : Sl} {ss : List Sl} {d d1 d2 : PyData} {ds es : List PyData} {D : Ends} {tu tw tv : TS} {g : TG}
theorem ev_tupNew (h : ∀ F L σ H, Ok K F L σ H ρ M → ∀ Q : VK, (∀ p vs H1, Ok K F L σ H1 ρ M1 → ad M1 = ad M → Same (hid (ad M) H) H1 → H1 p = none → DpAll K (hid (L ++ ad M) H1) vs ds → Q (.ref p) (upd H1 p (.tup vs))) → te σ H Q) : Ev K te ρ M (.dat (.tuple ds)) M1 := fun F L σ H o Q q => h F L σ H o Q fun p vs H1 o1 e1 a1 hp h2 => by
  refine q _ _ (o1.new hp) e1 (a1.trans (same_new hp)) (.tup ?_ (DpAll.mono (hid_mono (same_new hp)) h2))
  rw [hid_out (by rw [← e1]; exact o1.fresh hp)]; exact upd_same
theorem ev_slT {tl th : TO} {lo hi : Option Int} (ha : Ev K ta ρ M (.dat (.tuple ds)) M1) (hl : EvO K tl ρ M1 lo M2) (hh : EvO K th ρ M2 hi M3) : Ev K (tSl (rSlA K) ta tl th) ρ M (.dat (.tuple (cutD ds lo hi))) M3 := fun F L σ H o Q q =>
  ha F L σ H o _ fun x H1 o1 e1 a1 x1 => hl F L σ H1 o1 _ fun H2 o2 e2 a2 => hh F L σ H2 o2 _ fun H3 o3 e3 a3 => by
    have x3 := later (e2.trans e1) a3 (later e1 a2 x1)
    have x3' := x3
    obtain ⟨a, ys, rfl, h1, h2⟩ := tup_of x3
    have a13 := chain2 (e2.trans e1) (chain2 e1 a1 a2) a3
    have e13 := e3.trans (e2.trans e1)
    refine ⟨a, ys, rfl, SqT.vis h1, fun hw => q _ H3 o3 e13 a13 ?_, fun hw p hp => q _ _ (o3.new hp) e13 (a13.trans (same_new hp)) (.tup ?_ (DpAll.mono (hid_mono (same_new hp)) (cut_dp h2)))⟩
    · have e : cutD ds lo hi = ds := by
        unfold cutD
        rw [← h2.length]
        rw [hw.1, hw.2, List.drop_zero, Nat.sub_zero, h2.length, List.take_length]
      rw [e]; exact x3'
    · rw [hid_out (by rw [← e13]; exact o3.fresh hp)]; exact upd_same
theorem ev_revT (ha : Ev K ta ρ M (.dat (.tuple ds)) M1) : Ev K (tRevT K ta) ρ M (.dat (.tuple ds.reverse)) M1 := fun F L σ H o Q q =>
  ha F L σ H o _ fun x H1 o1 e1 a1 x1 => by
    obtain ⟨a, ys, rfl, h1, h2⟩ := tup_of x1
    refine ⟨a, ys, rfl, SqT.vis h1, fun p hp => q _ _ (o1.new hp) e1 (a1.trans (same_new hp)) (.tup ?_ (DpAll.mono (hid_mono (same_new hp)) h2.reverse))⟩
    rw [hid_out (by rw [← e1]; exact o1.fresh hp)]; exact upd_same
theorem evn_revL (ha : Ev K ta ρ M (.dat (.list ds)) M1) : EvN K (tRevL K ta) ρ M ds.reverse M1 := fun F L σ H o Q q =>
  ha F L σ H o _ fun x H1 o1 e1 a1 x1 => by
    obtain ⟨a, ys, rfl, h1, h2⟩ := list_of x1
    exact ⟨a, ys, rfl, SqL.vis h1, fun p hp => q p _ _ (back_none o o1 e1 a1 hp) (o1.lay hp) e1 (a1.trans (same_new hp)) upd_same (DpAll.mono (same_lay hp) h2.reverse)⟩
theorem ev_neB {a b : Bool} (ha : Ev K ta ρ M (.dat (.bool a)) M1) (hb : Ev K tb ρ M1 (.dat (.bool b)) M2) : Ev K (tOp rNe ta tb) ρ M (.dat (.bool (!decide (a = b)))) M2 := ev_op ha hb fun F L σ H x y o hx hy Q q => by
  rw [bl_of hx, bl_of hy]
  refine ⟨rfl, q _ H (Same.refl H) ?_⟩
  rw [show decide (V.bl a = V.bl b) = decide (a = b) by simp]
  exact .bl _
theorem ev_eqB {a b : Bool} (ha : Ev K ta ρ M (.dat (.bool a)) M1) (hb : Ev K tb ρ M1 (.dat (.bool b)) M2) : Ev K (tOp rEq ta tb) ρ M (.dat (.bool (decide (a = b)))) M2 := ev_op ha hb fun F L σ H x y o hx hy Q q => by
  rw [bl_of hx, bl_of hy]
  refine ⟨rfl, q _ H (Same.refl H) ?_⟩
  rw [show decide (V.bl a = V.bl b) = decide (a = b) by simp]
  exact .bl _
theorem inV_ints (i : Int) : ∀ ns : List Int, inV (.int i) (ns.map V.int) = decide (i ∈ ns)
  | [] => rfl
  | n :: ns => by
    have ih := inV_ints i ns
    unfold inV at ih ⊢
    rw [List.map_cons, List.any_cons, ih]
    by_cases e : n = i
    · subst e; simp [eqV]
    · rw [show eqV (.int n) (.int i) = false by simp [eqV, e], Bool.false_or]
      exact decide_eq_decide.mpr ⟨fun h => List.mem_cons_of_mem _ h, fun h => by
        rcases List.mem_cons.mp h with z | z
        · exact absurd z.symm e
        · exact z⟩
theorem ev_inTI {i : Int} {ns : List Int} {neg : Bool} (ha : Ev K ta ρ M (.dat (.int i)) M1) (hb : Ev K tb ρ M1 (.dat (.tuple (ns.map PyData.int))) M2) : Ev K (tOp (rIn K neg) ta tb) ρ M (.dat (.bool (if neg then !decide (i ∈ ns) else decide (i ∈ ns)))) M2 := ev_op ha hb fun F L σ H x y o hx hy Q q => by
  obtain ⟨a, ys, rfl, h1, h2⟩ := tup_of hy
  have e := dp_ints h2
  subst e
  rw [int_of hx]
  refine ⟨a, _, rfl, .inr (SqT.vis h1), rfl, by simp [List.all_map, flatV, Function.comp_def], ?_⟩
  rw [inV_ints]
  exact q _ H (Same.refl H) (.bl _)
theorem ev_inLI {i : Int} {ns : List Int} {neg : Bool} (ha : Ev K ta ρ M (.dat (.int i)) M1) (hb : Ev K tb ρ M1 (.dat (.list (ns.map PyData.int))) M2) : Ev K (tOp (rIn K neg) ta tb) ρ M (.dat (.bool (if neg then !decide (i ∈ ns) else decide (i ∈ ns)))) M2 := ev_op ha hb fun F L σ H x y o hx hy Q q => by
  obtain ⟨a, ys, rfl, h1, h2⟩ := list_of hy
  have e := dp_ints h2
  subst e
  rw [int_of hx]
  refine ⟨a, _, rfl, .inl (SqL.vis h1), rfl, by simp [List.all_map, flatV, Function.comp_def], ?_⟩
  rw [inV_ints]
  exact q _ H (Same.refl H) (.bl _)
theorem upd_upd (H : Hp) (p : Addr) (x y : HO) : upd (upd H p x) p y = upd H p y := by
  funext a
  by_cases e : a = p
  · subst e; rw [upd_same, upd_same]
  · rw [upd_ne e, upd_ne e, upd_ne e]
/-- {a: b, ..}[w] of three texts -/
theorem ev_swap3 {ty : TE} {a1 b1 a2 b2 a3 b3 u v : Str} (hy : Ev K ty ρ M (.dat (.str u)) M1) (hv : valV (mergeK [] [((.inr a1 : Key), V.str b1), (.inr a2, .str b2), (.inr a3, .str b3)]) (.inr u) = some (.str v)) :
    Ev K (tDGet (tDisp [(tC (.str a1), tC (.str b1)), (tC (.str a2), tC (.str b2)), (tC (.str a3), tC (.str b3))]) ty) ρ M (.dat (.str v)) M1 := fun F L σ H o Q q => fun p hp => by
  refine ⟨upd_same, [((.inr a1 : Key), V.str b1), (.inr a2, .str b2), (.inr a3, .str b3)], rfl, by simp, ?_⟩
  rw [upd_upd]
  have hm : p ∉ ad M := fun z => o.fresh hp (List.mem_append_right _ z)
  refine hy F L σ _ (o.new hp) _ fun y H2 o2 e2 a2 y2 => ⟨p, .str v, rfl, ?_, q _ H2 o2 e2 (Same.trans (hid_mono (same_new hp)) a2) (.str v)⟩
  rw [str_of y2, ← hv]
  exact DGet.k (k := .inr u) (a2 p _ (by rw [hid_out hm]; exact upd_same))
/-- two names at once: a new list that will change, and a thing that is data -/
theorem s_parN {i j : Nat} (h : EvN K ta ρ M ds M1) (h2 : Ev K tb ρ M1 (.dat d) M2) (k : ∀ p σ H, p ∉ L → Ok K F L σ H ((ρ.set i (.loc (.ref p))).set j (.dat d)) (M2 ++ [(p, .lst ds)]) → D.nx σ H) (o : Ok K F L σ H ρ M) : tPar i j (tCons ta (tCons tb tNil)) D σ H := h F L σ H o _ fun p vs H1 hp o1 e1 a1 g1 g2 => h2 F (p :: L) σ H1 o1 _ fun y H2 o2 e2 a2 y2 => by
  have hm : p ∉ ad M1 := by rw [e1]; exact mem_ad_of (Q := fun _ => True) o hp
  have hm2 : p ∉ ad M2 := by rw [e2]; exact hm
  have hf : F p = none := o.fr.free hp
  have hL : p ∉ L := fun z => o.fresh hp (List.mem_append_left _ z)
  have g1' : H2 p = some (.lst vs) := a2 p _ (by rw [hid_out hm]; exact g1)
  have sub : Same (hid (p :: (L ++ ad M1)) H1) (hid (p :: (L ++ ad M1)) H2) := fun a x q => by
    obtain ⟨n, e⟩ := hid_some q
    rw [hid_out n]
    exact a2 a x (by rw [hid_out (fun z => n (List.mem_cons_of_mem _ (List.mem_append_right _ z)))]; exact e)
  refine ⟨.ref p, y, rfl, k p _ _ hL (Ok.set (Ok.set (v := .ref p) (s := .loc (.ref p)) (Ok.add o2.lift ?_ ?_ hm2 hf ?_) rfl) ?_)⟩
  · exact o2.sl
  · exact o2.ob
  · refine ⟨vs, g1', ?_⟩
    rw [e2]
    exact DpAll.mono sub (by rw [e1]; exact g2)
  · have y3 : SlOk K (hid (p :: L ++ ad M2) H2) y (.dat d) := by rw [e2]; exact y2
    refine y3.mono (hid_sub fun a ha => ?_)
    simp only [ad, List.map_append, List.map_cons, List.map_nil, List.mem_append, List.mem_cons, List.not_mem_nil, or_false, List.cons_append] at ha ⊢
    rcases ha with z | z | z
    · exact .inr (.inl z)
    · exact .inr (.inr z)
    · exact .inl z
theorem q_parN {i j : Nat} (h : EvN K ta ρ M ds M1) (h2 : Ev K tb ρ M1 (.dat d) M2) (k : ∀ p σ H, p ∉ L → Ok K F L σ H ((ρ.set i (.loc (.ref p))).set j (.dat d)) (M2 ++ [(p, .lst ds)]) → tv D σ H) (o : Ok K F L σ H ρ M) : tSeq (tPar i j (tCons ta (tCons tb tNil))) tv D σ H := s_parN (D := { D with nx := tv D }) h h2 k o
end
end Wm

/-! sets of tuples of leaves (texts among them), and how many they hold: generic over the kind of the leaves. -/
namespace Wm
open PySem L2 PySem.Spec PyProof.Rows
section
variable {κ : Type} [DecidableEq κ] {P : Program} {w : World} {knd : KeyKind P w κ} {A : Around} {E : Value → Shared → Prop} {s : Shared}
/-- of no class statement, and a word on whether hashed by value -/
structure Leafy (knd : KeyKind P w κ) : Prop where
  cls : ∀ k v, knd.is k v = true → ∀ n, ofAClassStatement n v = pure false
  byv : ∀ k v, knd.is k v = true → ∀ n, ∃ b, hashByValue n v = pure b
theorem leafy_str {P : Program} {w : World} : Leafy (strKind P w) where
  cls := fun k v h n => by
    obtain ⟨t, rfl⟩ := Value.isStrOf_shape h
    cases n <;> rfl
  byv := fun k v h n => by
    obtain ⟨t, rfl⟩ := Value.isStrOf_shape h
    exact ⟨false, by cases n <;> rfl⟩
theorem items_leafy (lf : Leafy knd) {k : List κ} {vs : List Value} (h : ItemsAre knd k vs) : ∀ v ∈ vs, (∀ n, ofAClassStatement n v = pure false) ∧ ∀ n, ∃ b, hashByValue n v = pure b := by
  induction h with
  | nil => exact fun v hv => nomatch hv
  | cons h1 _ ih => exact fun v hv => (List.mem_cons.mp hv).elim (fun e => e ▸ ⟨lf.cls _ _ h1, lf.byv _ _ h1⟩) (ih v)
/-- the tuple at a is the key k -/
abbrev TupAt (knd : KeyKind P w κ) (h : Heap) (k : List κ) (a : Addr) : Prop := IsTupleKey knd h k a
abbrev hsh (knd : KeyKind P w κ) (k : List κ) : Int := tupleKeyHash knd k
theorem no_class (lf : Leafy knd) {k : List κ} {b : Addr} {Q : Bool → Shared → Prop} (hk : TupAt knd s.heap k b) (h : Q false s) : wpAny (model P w) A (ofAClassStatement 8 (.ref b)) Q E s := by
  have hT := hk.typeIs
  obtain ⟨o, items, n, ho, _, hd, hi⟩ := hk
  have all := items_leafy lf hi
  unfold ofAClassStatement
  refine wpAny_bind (wpAny_typeOf hT ?_)
  dsimp only
  rw [show (("tuple" : String) == "tuple") = true by decide]
  simp only [if_true]
  refine wpAny_bind (wpAny_pure ?_)
  simp only [Bool.not_true, Bool.false_eq_true, if_false]
  refine wpAny_bind (wpAny_seqItems ho hd ?_)
  dsimp only
  refine wpAny_bind ?_
  rw [← Array.forIn_toList]
  refine wpAny_forIn_list _ (fun rest r s' => r.1 = none ∧ s' = s ∧ ∀ v ∈ rest, v ∈ items.toList) _ ?_ ?_ _ _ ⟨rfl, rfl, fun v hv => hv⟩
  · rintro v rest r s' ⟨hr, rfl, sub⟩
    rw [(all v (sub v List.mem_cons_self)).1]
    refine wpAny_bind (wpAny_pure ?_)
    simp only [Bool.false_eq_true, if_false]
    exact wpAny_pure ⟨rfl, rfl, fun u hu => sub u (List.mem_cons_of_mem _ hu)⟩
  · rintro ⟨r1, r2⟩ s' ⟨hr, rfl, _⟩
    simp only at hr
    subst hr
    exact wpAny_pure h
theorem by_value (lf : Leafy knd) {k : List κ} {b : Addr} {Q : Bool → Shared → Prop} (hk : TupAt knd s.heap k b) (h : ∀ c, Q c s) : wpAny (model P w) A (hashByValue 8 (.ref b)) Q E s := by
  have hT := hk.typeIs
  obtain ⟨o, items, n, ho, _, hd, hi⟩ := hk
  have all := items_leafy lf hi
  unfold hashByValue
  refine wpAny_bind (wpAny_specialOf hT F.slot_tuple_hash.lookup ?_)
  show wpAny _ _ (seqItems? (.ref b) >>= _) _ _ s
  refine wpAny_bind (wpAny_seqItems ho hd ?_)
  refine wpAny_bind ?_
  show wpAny _ _ (forIn items _ _) _ _ s
  rw [← Array.forIn_toList]
  refine wpAny_forIn_list _ (fun rest r s' => (r.1 = none ∨ ∃ c, r.1 = some c) ∧ s' = s ∧ ∀ v ∈ rest, v ∈ items.toList) _ ?_ ?_ _ _ ⟨.inl rfl, rfl, fun v hv => hv⟩
  · rintro v rest r s' ⟨hr, rfl, sub⟩
    obtain ⟨c, e⟩ := (all v (sub v List.mem_cons_self)).2 7
    rw [e]
    refine wpAny_bind (wpAny_pure ?_)
    cases c
    · simp only [Bool.not_false, if_true]
      exact wpAny_pure (show wpAny _ _ (pure false) Q E s' from wpAny_pure (h false))
    · simp only [Bool.not_true, Bool.false_eq_true, if_false]
      exact wpAny_pure ⟨.inl rfl, rfl, fun u hu => sub u (List.mem_cons_of_mem _ hu)⟩
  · rintro ⟨r1, r2⟩ s' ⟨hr, rfl, _⟩
    cases r1 with
    | none => exact wpAny_pure (h _)
    | some c => exact wpAny_pure (h _)
theorem not_seen (lf : Leafy knd) {k : List κ} {b : Addr} {Q : Bool → Shared → Prop} (hk : TupAt knd s.heap k b) {ys : List Value} (hy : ∀ y ∈ ys, ∃ k' c, y = Value.ref c ∧ TupAt knd s.heap k' c) (h : Q false s) :
    wpAny (model P w) A (searchCouldBeSeen (.ref b) ys) Q E s := by
  unfold searchCouldBeSeen
  refine wpAny_bind ?_
  refine wpAny_forIn_list _ (fun rest r s' => r.1 = none ∧ s' = s ∧ ∀ y ∈ rest, y ∈ ys) _ ?_ ?_ _ _ ⟨rfl, rfl, fun y hy => hy⟩
  · rintro v rest r s' ⟨hr, rfl, sub⟩
    obtain ⟨k', c, rfl, hc⟩ := hy v (sub v List.mem_cons_self)
    have sub' : ∀ y ∈ rest, y ∈ ys := fun u hu => sub u (List.mem_cons_of_mem _ hu)
    dsimp only
    by_cases hv : (b == c || (carriedByValue (.ref b) && carriedByValue (.ref c))) = true
    · exact wp_if_pos hv (wpAny_pure ⟨rfl, rfl, sub'⟩)
    · refine wp_if_neg hv (wpAny_bind (wpAny_eqIsQuiet_tuple hk ?_))
      simp only [Bool.not_true, Bool.false_eq_true, if_false]
      refine wpAny_bind (wpAny_eqIsQuiet_tuple hc ?_)
      simp only [Bool.not_true, Bool.false_eq_true, if_false]
      refine wpAny_bind (no_class lf hk ?_)
      simp only [Bool.false_eq_true, if_false]
      refine wpAny_bind (no_class lf hc ?_)
      simp only [Bool.false_eq_true, if_false]
      exact wpAny_pure ⟨rfl, rfl, sub'⟩
  · rintro ⟨r1, r2⟩ s' ⟨hr, rfl, _⟩
    simp only at hr
    subst hr
    exact wpAny_pure h
/-! ### the set as it stands -/
def entOf (knd : KeyKind P w κ) (p : Addr × List κ) : Int × Value := (hsh knd p.2, .ref p.1)
/-- at a stands a set of the keys of L, each with its tuple -/
structure Kset (knd : KeyKind P w κ) (h : Heap) (a : Addr) (L : List (Addr × List κ)) (es : Array (Int × Value)) (ep : Nat) (t : SetTable) : Prop where
  ob : ∃ o, h.get? a = some o ∧ o.ExactSet ∧ o.data = .set es ep t
  rows : es.toList = L.map (entOf knd)
  tab : TabOk t (L.map fun p => hsh knd p.2)
  nd : (L.map (·.2)).Nodup
  tup : ∀ p ∈ L, TupAt knd h p.2 p.1
  room : L.length * 5 < t.mask * 3
  few : L.length < 64
variable {a : Addr} {L : List (Addr × List κ)} {es : Array (Int × Value)} {ep : Nat} {t : SetTable}
theorem rows_size {es : Array (Int × Value)} {L : List (Addr × List κ)} (h : es.toList = L.map (entOf knd)) : es.size = L.length := by
  rw [← Array.length_toList, h, List.length_map]
theorem fits_of {t : SetTable} {n : Nat} (hd : t.dummies = #[]) (hs : t.place.size = n) (hm : n ≤ t.mask) : t.fits n = true := by
  unfold SetTable.fits SetTable.fill
  rw [hd, Bool.and_eq_true, beq_iff_eq, decide_eq_true_eq]
  exact ⟨hs, by show t.place.size + 0 ≤ t.mask; omega⟩
theorem Kset.psize (R : Kset knd s.heap a L es ep t) : t.place.size = es.size := by rw [R.tab.sz, List.length_map, rows_size R.rows]
theorem Kset.fits (R : Kset knd s.heap a L es ep t) : t.fits es.size = true := fits_of R.tab.dm R.psize (by have := R.room; rw [rows_size R.rows]; omega)
theorem Kset.ent (R : Kset knd s.heap a L es ep t) {i : Nat} {p : Addr × List κ} (h : L[i]? = some p) : es[i]? = some (entOf knd p) := by
  rw [← Array.getElem?_toList, R.rows, List.getElem?_map, h]; rfl
theorem Kset.at_ (R : Kset knd s.heap a L es ep t) {i j : Nat} (h : t.place.toList[i]? = some j) : ∃ p, L[i]? = some p := by
  have h1 := (List.getElem?_eq_some_iff.mp h).1
  rw [Array.length_toList, R.tab.sz, List.length_map] at h1
  exact ⟨L[i], List.getElem?_eq_getElem h1⟩
/-- the search, c steps on its way, no key met so far being the one sought -/
theorem seek (lf : Leafy knd) (R : Kset knd s.heap a L es ep t) (hled : w.params.followText "set-order" = true ∨ t.led = true ∨ True) {x : Addr} {k : List κ} (hx : TupAt knd s.heap k x) (hu : A.units < cLine) {K : Nat} (hKf : K < 10 * SetTable.turns t.mask)
    (hK : way t.mask (hsh knd k) K ∉ t.place.toList) (hb : ∀ c, c < K → way t.mask (hsh knd k) c ∈ t.place.toList) {Q : SetFound → Shared → Prop}
    (hin : k ∈ L.map (·.2) → Q (.there none) s) (hout : k ∉ L.map (·.2) → Q (.free (way t.mask (hsh knd k) K) false) s) :
    ∀ (f c : Nat) (stand : Option SetTable.Probe), stand.getD (t.probeStart (hsh knd k)) = nth t.mask (t.probeStart (hsh knd k)) c → c ≤ K → K < f + c →
      (∀ (c' i : Nat) p, c' < c → t.place.toList[i]? = some (way t.mask (hsh knd k) c') → L[i]? = some p → p.2 ≠ k) →
      wpAny (model P w) A (setSearchFrom a (.ref x) (hsh knd k) true f stand) Q E s := by
  have key : ∀ (n : Nat) (p : SetTable.Probe), p.dummy = none → (nth t.mask p n).dummy = none := fun n => by
    induction n with
    | zero => exact fun p h => h
    | succ n ih => exact fun p h => ih (adv t.mask p) (by unfold adv; split <;> exact h)
  obtain ⟨o, ho, hex, hd⟩ := R.ob
  intro f
  induction f with
  | zero => intro c stand _ hc hf; omega
  | succ f ih =>
    intro c stand hst hc hf hno
    rw [setSearchFrom_succ]
    refine wpAny_bind (wpAny_setState_of ho hd R.fits ?_)
    dsimp only
    have hgw : ¬ t.gaveWay = true := by unfold SetTable.gaveWay; rw [mask_odd R.tab.mok]; decide
    refine wp_if_neg hgw ?_
    try refine wpAny_bind (wpAny_pure ?_)
    have go : ∀ q, (nth t.mask (nth t.mask (t.probeStart (hsh knd k)) c) q) = nth t.mask (t.probeStart (hsh knd k)) (c + q) := fun q => (nth_add t.mask c _ q).symm
    have goj : ∀ q, (nth t.mask (nth t.mask (t.probeStart (hsh knd k)) c) q).j = way t.mask (hsh knd k) (c + q) := fun q => congrArg SetTable.Probe.j (go q)
    have hashAt : ∀ (i : Nat) p, L[i]? = some p → (es[i]?.map (·.1)).getD 0 = hsh knd p.2 := fun i p hp => by rw [R.ent hp]; rfl
    rcases go_spec t R.tab.ris R.tab.dm (fun i => (es[i]?.map (·.1)).getD 0) (hsh knd k) (10 * SetTable.turns t.mask) (K - c) (nth t.mask (t.probeStart (hsh knd k)) c) (key c _ rfl) (by omega)
      (fun q hq => by rw [goj]; exact hb (c + q) (by omega)) (by rw [goj, show c + (K - c) = K by omega]; exact hK) with ⟨q, i, hq, hi, hh, hne, hpr⟩ | ⟨hne, hpr⟩
    · rw [goj] at hi
      have hpr' : t.probe (fun i => (es[i]?.map (·.1)).getD 0) (hsh knd k) (stand.getD (t.probeStart (hsh knd k))) = some (.candidate (way t.mask (hsh knd k) (c + q)) i (nth t.mask (t.probeStart (hsh knd k)) (c + (q + 1)))) := by
        rw [hst, ← goj, ← go]; exact hpr
      rw [hpr']
      dsimp only
      obtain ⟨p, hp⟩ := R.at_ hi
      have hpm := List.mem_of_getElem? hp
      have hsl : t.slot (way t.mask (hsh knd k) (c + q)) = .live i := slot_live R.tab.ris hi
      have rest : wpAny (model P w) A (searchRest a (.ref x) (hsh knd k) true f es t (way t.mask (hsh knd k) (c + q)) i (nth t.mask (t.probeStart (hsh knd k)) (c + (q + 1)))) Q E s := by
        unfold searchRest
        rw [R.ent hp]
        unfold entOf
        dsimp only
        refine wpAny_bind (wpAny_holding (wpAny_eqBool_tuple hu (R.tup p hpm) hx ?_))
        refine wpAny_bind (wpAny_setState_of ho hd R.fits ?_)
        dsimp only
        by_cases hkk : p.2 = k
        · refine wp_if_pos (by rw [decide_eq_true hkk]; rfl) (wpAny_pure (hin (List.mem_map.mpr ⟨p, hpm, hkk⟩)))
        · refine wp_if_neg (by rw [decide_eq_false hkk]; exact fun z => nomatch z) ?_
          try refine wpAny_bind (wpAny_pure ?_)
          rw [sameMem]
          dsimp only
          simp only [if_true, hsl, R.ent hp, entOf]
          refine wpAny_bind (wpAny_isSame_ref_self (wpAny_bind (wpAny_pure ?_)))
          simp only [if_true]
          refine wp_if_neg (by rw [decide_eq_false hkk]; exact fun z => nomatch z) ?_
          refine ih (c + (q + 1)) _ rfl (by omega) (by omega) fun c' i' p' hc' hi' hp' e => ?_
          rcases Nat.lt_or_ge c' c with z | z
          · exact hno c' i' p' z hi' hp' e
          · rcases Nat.lt_or_ge c' (c + q) with y | y
            · refine hne (c' - c) i' (by omega) (by rw [goj, show c + (c' - c) = c' by omega]; exact hi') ?_
              rw [← e]; exact hashAt i' p' hp'
            · have : c' = c + q := by omega
              rw [this] at hi'
              have s0 := slot_live R.tab.ris hi'
              rw [hsl] at s0
              injection s0 with s0
              rw [← s0, hp] at hp'
              exact hkk (by rw [Option.some.inj hp']; exact e)
      by_cases hl : t.led = true
      · refine wp_if_neg (by rw [hl]; exact fun z => nomatch z) ?_
        try refine wpAny_bind (wpAny_pure ?_)
        exact rest
      · refine wp_if_pos (by rw [Bool.not_eq_true] at hl; rw [hl]; rfl) ?_
        refine wpAny_bind (not_seen lf hx (fun y hy => ?_) ?_)
        · obtain ⟨e, he, ee⟩ := List.mem_map.mp hy
          have he1 : e ∈ es ∧ e.1 = hsh knd k := by simpa using he
          have he2 : e ∈ es.toList := by simpa using he1.1
          rw [R.rows] at he2
          obtain ⟨p2, hp2, e2⟩ := List.mem_map.mp he2
          exact ⟨p2.2, p2.1, by rw [← ee, ← e2]; rfl, R.tup p2 hp2⟩
        · refine wp_if_neg (by decide) ?_
          try refine wpAny_bind (wpAny_pure ?_)
          exact rest
    · have hpr' : t.probe (fun i => (es[i]?.map (·.1)).getD 0) (hsh knd k) (stand.getD (t.probeStart (hsh knd k))) = some (.empty (way t.mask (hsh knd k) K) none) := by
        rw [hst, show way t.mask (hsh knd k) K = (nth t.mask (nth t.mask (t.probeStart (hsh knd k)) c) (K - c)).j by rw [goj, show c + (K - c) = K by omega]]
        exact hpr
      rw [hpr']
      dsimp only
      refine wpAny_pure (hout fun hm => ?_)
      obtain ⟨p0, h0, hk0⟩ := List.mem_map.mp hm
      obtain ⟨i0, hi0, e0⟩ := List.getElem_of_mem h0
      have h00 : L[i0]? = some p0 := by rw [List.getElem?_eq_getElem hi0, e0]
      have hil : i0 < t.place.toList.length := by rw [Array.length_toList, R.tab.sz, List.length_map]; exact hi0
      obtain ⟨c', hc', e⟩ := R.tab.before hK (i := i0) (h := hsh knd k) (by rw [List.getElem?_map, h00, ← hk0]; rfl) (List.getElem?_eq_getElem hil)
      have hpl : t.place.toList[i0]? = some (way t.mask (hsh knd k) c') := by rw [List.getElem?_eq_getElem hil, e]
      rcases Nat.lt_or_ge c' c with z | z
      · exact hno c' i0 p0 z hpl h00 hk0
      · refine hne (c' - c) i0 (by omega) (by rw [goj, show c + (c' - c) = c' by omega]; exact hpl) ?_
        rw [← hk0]; exact hashAt i0 p0 h00
theorem seek_at (lf : Leafy knd) (R : Kset knd s.heap a L es ep t) {x : Addr} {k : List κ} (hx : TupAt knd s.heap k x) (hu : A.units < cLine) {Q : SetFound → Shared → Prop}
    (hin : k ∈ L.map (·.2) → Q (.there none) s)
    (hout : ∀ K, k ∉ L.map (·.2) → way t.mask (hsh knd k) K ∉ t.place.toList → (∀ c, c < K → way t.mask (hsh knd k) c ∈ t.place.toList) → Q (.free (way t.mask (hsh knd k) K) false) s) :
    wpAny (model P w) A (setSearch a (.ref x) (hsh knd k) true) Q E s := by
  have hroom := R.room
  obtain ⟨K, hKf, hK, hKb⟩ := R.tab.first (by rw [List.length_map]; omega) (hsh knd k)
  have hbig : 10 * SetTable.turns t.mask ≤ 1420 := by
    unfold SetTable.turns
    rcases R.tab.mok with e | e | e <;> omega
  unfold setSearch
  exact seek lf R (.inr (.inr trivial)) hx hu hKf hK hKb hin (fun hn => hout K hn hK hKb) 100000 0 none rfl (Nat.zero_le _) (by omega) fun c' _ _ h => absurd h (Nat.not_lt_zero _)
end
end Wm

namespace Wm
open PySem L2 PySem.Spec PyProof.Rows
section
variable {κ : Type} [DecidableEq κ] {P : Program} {w : World} {knd : KeyKind P w κ} {A : Around} {E : Value → Shared → Prop} {s : Shared}
variable {a : Addr} {L : List (Addr × List κ)} {es : Array (Int × Value)} {ep : Nat} {t : SetTable}
/-! ### the table laid anew; adding -/
theorem tup_same {h h' : Heap} {k : List κ} {a b : Addr} {o : Obj} (hb : TupAt knd h k b) (ho : h.get? a = some o) (hd : o.data = .set es ep t) (hs : Heap.SameBut a h h') : TupAt knd h' k b := by
  obtain ⟨o', items, n, ho', hc, hd', hi⟩ := hb
  refine ⟨o', items, n, (hs.2 b fun e => ?_).trans ho', hc, hd', hi⟩
  rw [e, ho] at ho'
  rw [← Option.some.inj ho', hd] at hd'
  cases hd'
theorem reorder {order : Array Nat} (hr : es.toList = L.map (entOf knd)) (hp : order.toList.Perm (List.range L.length)) :
    ∃ L2 : List (Addr × List κ), (order.filterMap (es[·]?)).toList = L2.map (entOf knd) ∧ L2.Perm L ∧ (L2.map fun p => hsh knd p.2) = order.toList.map fun i => (es.map (·.1)).getD i 0 := by
  have hsz := rows_size hr
  have lt : ∀ i ∈ order.toList, i < L.length := fun i hi => List.mem_range.mp (hp.mem_iff.mp hi)
  have ent : ∀ i, i < L.length → es[i]? = some (entOf knd (L.getD i (0, []))) := fun i hi => by
    rw [← Array.getElem?_toList, hr, List.getElem?_map, List.getElem?_eq_getElem hi, List.getD_eq_getElem?_getD, List.getElem?_eq_getElem hi]; rfl
  refine ⟨order.toList.map fun i => L.getD i (0, []), ?_, ?_, ?_⟩
  · rw [Array.toList_filterMap, fm_congr (g := some ∘ fun i => entOf knd (L.getD i (0, []))) fun i hi => ent i (lt i hi), List.filterMap_eq_map, List.map_map]; rfl
  · have h1 := hp.map fun i => L.getD i ((0, []) : Addr × List κ)
    rw [show (List.range L.length).map (fun i => L.getD i ((0, []) : Addr × List κ)) = L by have := range_map_getD L ((0, []) : Addr × List κ) id; simpa using this] at h1
    exact h1
  · rw [List.map_map]
    refine List.map_congr_left fun i hi => ?_
    have hi' := lt i hi
    have e : (es.map (·.1))[i]? = some (hsh knd (L.getD i ((0, []) : Addr × List κ)).2) := by rw [Array.getElem?_map, ent i hi']; rfl
    show hsh knd (L.getD i ((0, []) : Addr × List κ)).2 = (es.map (·.1)).getD i 0
    rw [Array.getD_eq_getD_getElem?, e]; rfl
theorem relaid {o : Obj} (ho : s.heap.get? a = some o) (hex : o.ExactSet) (hd : o.data = .set es ep t) (hrows : es.toList = L.map (entOf knd)) (hsz : t.place.size = es.size) (hdm : t.dummies = #[]) (hfl : es.size ≤ t.mask)
    (nd : (L.map (·.2)).Nodup) (tup : ∀ p ∈ L, TupAt knd s.heap p.2 p.1) (few : L.length < 64) {wanted M : Nat}
    (hw : SetTable.sizeAbove wanted - 1 = M) (hM : MaskOk M) (hw2 : SetTable.sizeAbove wanted ≤ 128) (hn : L.length * 5 < M * 3) {Q : Unit → Shared → Prop}
    (hQ : ∀ h' L' es' ep' t', Heap.SameBut a s.heap h' → Kset knd h' a L' es' ep' t' → L'.Perm L → Q () { s with heap := h' }) : wpAny (model P w) A (setRelay a wanted) Q E s := by
  have hsl := rows_size hrows
  obtain ⟨t', order, e, hp, T, em, _, _, _⟩ := relaid_ok t (hs := es.map (·.1)) (wanted := wanted) hw hM (by rw [Array.size_map, hsl]; omega)
  rw [Array.size_map, hsl] at hp
  obtain ⟨L2, r1, r2, r3⟩ := reorder hrows hp
  rw [← r3] at T
  have hs2 : (order.filterMap (es[·]?)).size = es.size := by rw [rows_size r1, r2.length_eq, hsl]
  rw [setRelay_eq]
  refine wpAny_bind (wpAny_setState_of ho hd (fits_of hdm hsz hfl) ?_)
  dsimp only
  refine wp_if_neg (by rw [sizeLine_eq]; omega) ?_
  try refine wpAny_bind (wpAny_pure ?_)
  rw [e]
  dsimp only
  refine wpAny_bind (wp_if_neg (by rw [hs2]; simp) ?_)
  try refine wpAny_bind (wpAny_pure ?_)
  refine wpAny_pure ?_
  dsimp only
  have sb : Heap.SameBut a s.heap (s.heap.update a (Obj.putSet (order.filterMap (es[·]?)) t')) := Heap.SameBut.update ..
  refine wpAny_storeSet_of ho hd (hQ _ L2 _ (ep + 1) t' sb ⟨⟨_, store_at ho hd, ⟨hex.1, hex.2.1, hex.2.2⟩, rfl⟩, r1, T, (r2.map (·.2)).nodup_iff.mpr nd, fun p hp => tup_same (tup p (r2.mem_iff.mp hp)) ho hd sb, ?_, ?_⟩ r2) (by rw [hs2, hsl, sizeLine_eq]; omega)
  · rw [r2.length_eq, em]; exact hn
  · rw [r2.length_eq]; exact few
theorem put_in (lf : Leafy knd) (R : Kset knd s.heap a L es ep t) {x : Addr} {k : List κ} (hx : TupAt knd s.heap k x) (hu : A.units < cLine) (hfew : L.length + 1 < 64) {Q : Bool → Shared → Prop}
    (hQ : ∀ b h' L' es' ep' t', Heap.SameBut a s.heap h' → Kset knd h' a L' es' ep' t' → (k ∈ L.map (·.2) → L' = L) → (k ∉ L.map (·.2) → L'.Perm ((x, k) :: L)) → Q b { s with heap := h' }) :
    wpAny (model P w) A (setAddHashed a (.ref x) (hsh knd k)) Q E s := by
  obtain ⟨o, ho, hex, hd⟩ := R.ob
  have hsl := rows_size R.rows
  have hroom := R.room
  unfold setAddHashed
  refine wpAny_holding ?_
  rw [show (100000 : Nat) = 99999 + 1 from rfl, setAddHashedIn_succ]
  refine wpAny_bind (wpAny_setState_of ho hd R.fits ?_)
  dsimp only
  refine wp_if_neg (by simp [byScan, Value.scannable]) ?_
  try refine wpAny_bind (wpAny_pure ?_)
  refine wpAny_bind (seek_at lf R hx hu (fun hm => wpAny_pure (hQ false s.heap L es ep t (Heap.SameBut.refl a s.heap) R (fun _ => rfl) fun z => absurd hm z)) fun K hm hK hb => ?_)
  dsimp only
  refine wpAny_bind (wpAny_setState_of ho hd R.fits ?_)
  dsimp only
  obtain ⟨q1, q2, q3, q4, _, _, _, _, q9⟩ := R.tab.put hK hb
  generalize hpt : t.put (way t.mask (hsh knd k) K) = pt at q1 q3 q4 q9 ⊢
  obtain ⟨t1, j⟩ := pt
  dsimp only at q1 q3 q4 q9 ⊢
  subst q1
  generalize hpp : SetTable.below t.place (way t.mask (hsh knd k) K) = j at q2 q3 ⊢
  have pm : (L.take j ++ (x, k) :: L.drop j).Perm ((x, k) :: L) := by
    have h : (L.take j ++ (x, k) :: L.drop j).Perm ((x, k) :: (L.take j ++ L.drop j)) := List.perm_middle
    rwa [List.take_append_drop] at h
  have hin : (SetTable.insertAt es j (hsh knd k, Value.ref x)).toList = (L.take j ++ (x, k) :: L.drop j).map (entOf knd) := by
    rw [SetTable.toList_insertAt, R.rows, List.map_append, List.map_cons, List.map_take, List.map_drop]; rfl
  have hlen : (L.take j ++ (x, k) :: L.drop j).length = L.length + 1 := pm.length_eq
  rw [← show (L.take j ++ (x, k) :: L.drop j).map (fun p => hsh knd p.2) = (L.map fun p => hsh knd p.2).take j ++ hsh knd k :: (L.map fun p => hsh knd p.2).drop j by rw [List.map_append, List.map_cons, List.map_take, List.map_drop]] at q3
  have nd1 : ((L.take j ++ (x, k) :: L.drop j).map (·.2)).Nodup := (pm.map (·.2)).nodup_iff.mpr (List.nodup_cons.mpr ⟨hm, R.nd⟩)
  have hes : (SetTable.insertAt es j (hsh knd k, Value.ref x)).size = L.length + 1 := (rows_size hin).trans hlen
  generalize SetTable.insertAt es j (hsh knd k, Value.ref x) = es1 at hin hes ⊢
  generalize L.take j ++ (x, k) :: L.drop j = L1 at pm hlen q3 nd1 hin
  have rest : ∀ t2 : SetTable, t2.place = t1.place → t2.dummies = t1.dummies → t2.mask = t1.mask → t2.fill = t1.fill → wpAny (model P w) A (do
      storeSet a es1 t2
      if (!false && t2.tooFull) = true then setRelay a (SetTable.grown (es.size + 1))
      return true) Q E s := fun t2 p1 p2 p3 p4 => by
    have q3' : TabOk t2 (L1.map fun p => hsh knd p.2) := ⟨by rw [p1]; exact q3.ris, by rw [p2]; exact q3.dm, by rw [p1]; exact q3.sz, by rw [p3]; exact q3.mok, by rw [p1, p3]; exact q3.bd, by rw [p1, p3]; exact q3.reach⟩
    rw [← p3] at q4
    rw [← p4] at q9
    refine wpAny_bind (wpAny_storeSet_of ho hd ?_ (by rw [hes, sizeLine_eq]; omega))
    have sb : Heap.SameBut a s.heap (s.heap.update a (Obj.putSet es1 t2)) := Heap.SameBut.update ..
    have ho1 := store_at (es' := es1) (t' := t2) ho hd
    generalize s.heap.update a (Obj.putSet es1 t2) = h1 at sb ho1 ⊢
    have tup1 : ∀ p ∈ L1, TupAt knd h1 p.2 p.1 := fun p hp => (List.mem_cons.mp (pm.mem_iff.mp hp)).elim (fun e => by rw [e]; exact tup_same hx ho hd sb) fun hp => tup_same (R.tup p hp) ho hd sb
    by_cases hf : t2.tooFull = true
    · have hfull : (L.length + 1) * 5 ≥ t2.mask * 3 := by
        have h := hf
        unfold SetTable.tooFull at h
        rw [decide_eq_true_eq, q9, List.length_map] at h
        exact h
      have two : (t.mask = 7 ∧ L.length = 4) ∨ (t.mask = 31 ∧ L.length = 18) := by
        rw [q4] at hfull
        rcases R.tab.mok with e | e | e
        · left; rw [e] at hfull hroom; exact ⟨e, by omega⟩
        · right; rw [e] at hfull hroom; exact ⟨e, by omega⟩
        · exfalso; rw [e] at hfull; omega
      rw [hsl]
      have go : ∀ M, SetTable.sizeAbove (SetTable.grown (L.length + 1)) - 1 = M → MaskOk M → SetTable.sizeAbove (SetTable.grown (L.length + 1)) ≤ 128 → (L.length + 1) * 5 < M * 3 →
          wpAny (model P w) A (setRelay a (SetTable.grown (L.length + 1))) (fun _ s' => wpAny (model P w) A (pure true) Q E s') E { s with heap := h1 } := fun M g1 g2 g3 g4 =>
        relaid (s := { s with heap := h1 }) ho1 ⟨hex.1, hex.2.1, hex.2.2⟩ rfl hin (by rw [q3'.sz, List.length_map, hlen, hes]) q3'.dm (by rw [hes, q4]; rcases two with ⟨e, e2⟩ | ⟨e, e2⟩ <;> omega) nd1 tup1 (by rw [hlen]; exact hfew) g1 g2 g3 (by rw [hlen]; exact g4)
          fun h2 L2 es2 ep2 t3 sb2 R2 pm2 => wpAny_pure (hQ true h2 L2 es2 ep2 t3 (sb.trans sb2) R2 (fun z => absurd z hm) fun _ => pm2.trans pm)
      have fin : wpAny (model P w) A (setRelay a (SetTable.grown (L.length + 1))) (fun _ s' => wpAny (model P w) A (pure true) Q E s') E { s with heap := h1 } := by
        rcases two with ⟨_, e2⟩ | ⟨_, e2⟩
        · exact go 31 (by rw [e2, size_20]) (.inr (.inl rfl)) (by rw [e2, size_20]; decide) (by omega)
        · exact go 127 (by rw [e2, size_76]) (.inr (.inr rfl)) (by rw [e2, size_76]; decide) (by omega)
      first
        | exact wpAny_bind (wp_if_pos (by rw [hf]; rfl) fin)
        | exact wp_if_pos (by rw [hf]; rfl) (wpAny_bind fin)
    · have last : Q true { s with heap := h1 } := by
        refine hQ true h1 L1 es1 (ep + 1) t2 sb ⟨⟨_, ho1, ⟨hex.1, hex.2.1, hex.2.2⟩, rfl⟩, hin, q3', nd1, tup1, ?_, by rw [hlen]; exact hfew⟩ (fun z => absurd z hm) fun _ => pm
        have h := hf
        unfold SetTable.tooFull at h
        rw [decide_eq_true_eq, q9, List.length_map] at h
        rw [hlen]; omega
      first
        | exact wp_if_neg (by simp [hf]) (wpAny_pure last)
        | exact wpAny_bind (wp_if_neg (by simp [hf]) (wpAny_pure (wpAny_pure last)))
  by_cases hp1 : t1.plain = true
  · first
      | refine wpAny_bind (wp_if_pos hp1 (by_value lf hx fun c => ?_))
      | refine wp_if_pos hp1 (wpAny_bind (by_value lf hx fun c => ?_))
    cases c
    · exact rest { t1 with plain := false } rfl rfl rfl rfl
    · exact rest t1 rfl rfl rfl rfl
  · first
      | refine wpAny_bind (wp_if_neg hp1 (wpAny_pure ?_))
      | refine wp_if_neg hp1 (wpAny_bind (wpAny_pure ?_))
    exact rest t1 rfl rfl rfl rfl
end
end Wm

namespace Wm
open PySem L2 PySem.Spec PyProof.Rows
section
variable {κ : Type} [DecidableEq κ] {P : Program} {w : World} {knd : KeyKind P w κ} {A : Around} {E : Value → Shared → Prop} {s : Shared}
/-- what the first i have brought in -/
def Met (ks : List (Addr × List κ)) (i : Nat) (L : List (Addr × List κ)) : Prop := (∀ p ∈ L, p ∈ ks) ∧ (∀ k, k ∈ L.map (·.2) ↔ k ∈ (ks.take i).map (·.2)) ∧ L.length ≤ i
theorem Met.next {ks L L' : List (Addr × List κ)} {i : Nat} {p : Addr × List κ} (g : Met ks i L) (hp : ks[i]? = some p) (c1 : p.2 ∈ L.map (·.2) → L' = L) (c2 : p.2 ∉ L.map (·.2) → L'.Perm (p :: L)) : Met ks (i + 1) L' := by
  obtain ⟨g1, g2, g3⟩ := g
  have et : (ks.take (i + 1)).map (·.2) = (ks.take i).map (·.2) ++ [p.2] := by rw [List.take_succ, hp, List.map_append]; rfl
  by_cases c : p.2 ∈ L.map (·.2)
  · rw [c1 c]
    refine ⟨g1, fun k => ?_, by omega⟩
    rw [et, List.mem_append, ← g2, List.mem_singleton]
    exact ⟨.inl, fun h => h.elim id fun e => e ▸ c⟩
  · have pm := c2 c
    refine ⟨fun q hq => (List.mem_cons.mp (pm.mem_iff.mp hq)).elim (fun e => e ▸ List.mem_of_getElem? hp) (g1 q), fun k => ?_, by rw [pm.length_eq, List.length_cons]; omega⟩
    rw [et, List.mem_append, ← g2, List.mem_singleton, (pm.map (·.2)).mem_iff, List.map_cons, List.mem_cons]
    exact Or.comm
theorem tup_keep {h h' : Heap} {k : List κ} {b : Addr} (x : TupAt knd h k b) (hk : ∀ c o, h.get? c = some o → h'.get? c = some o) : TupAt knd h' k b := by
  obtain ⟨o, items, n, ho, r⟩ := x
  exact ⟨o, items, n, hk b o ho, r⟩
theorem Kset.keep {h h' : Heap} {a : Addr} {L : List (Addr × List κ)} {es : Array (Int × Value)} {ep : Nat} {t : SetTable} (R : Kset knd h a L es ep t) (ha : ∀ o, h.get? a = some o → h'.get? a = some o) (ht : ∀ p ∈ L, TupAt knd h' p.2 p.1) : Kset knd h' a L es ep t :=
  { R with ob := let ⟨o, ho, r⟩ := R.ob; ⟨o, ha o ho, r⟩, tup := ht }
theorem kset_new {h : Heap} {a : Addr} {led : Bool} (ho : h.get? a = some { cls := .type "set", dict := none, data := .set #[] 0 (.fresh 0 0 led) }) : Kset knd h a [] #[] 0 (.fresh 0 0 led) where
  ob := ⟨_, ho, ⟨rfl, rfl, rfl⟩, rfl⟩
  rows := rfl
  tab := ⟨List.Pairwise.nil, rfl, rfl, .inl rfl, fun x hx => (nomatch hx), fun i h j hi => (by simp at hi)⟩
  nd := List.nodup_nil
  tup := fun p hp => nomatch hp
  room := by show 0 * 5 < 7 * 3; decide
  few := by show 0 < 64; decide
/-- the loop that fills the set -/
theorem fill (lf : Leafy knd) {I : Addr} {fp wr : List Addr} {G : Array GenState → Array GenState → Prop} {n : Nat} {Pv : Nat → Value → Prop} {St : Nat → Shared → Prop} {R : Result → Shared → Prop}
    (W : WalksS P w A.in1 I fp wr G n Pv St) (S : Addr) (hSf : S ∉ fp) (ks : List (Addr × List κ)) (hn : n = ks.length) (hfew : ks.length < 64) (hval : ∀ i v, Pv i v → ∃ p, ks[i]? = some p ∧ v = .ref p.1)
    (h0 : Heap) (hk : ∀ p ∈ ks, TupAt knd h0 p.2 p.1) (hS0 : h0.get? S = none) (hw0 : ∀ b ∈ wr, h0.get? b = none) (hu : A.in1.units < cLine) :
    ∀ (m i : Nat) (s : Shared), n - i = m → i ≤ n → St i s → (∀ b o, h0.get? b = some o → s.heap.get? b = some o) → (∃ L es ep t, Kset knd s.heap S L es ep t ∧ Met ks i L) →
      (∀ s' L es ep t, Moved (S :: wr) G s s' → Kset knd s'.heap S L es ep t → Met ks n L → (∀ b o, h0.get? b = some o → s'.heap.get? b = some o) → R (.ok (.ret .none)) s') →
      codeAny (model P w) A (.builtin "set.update.loop" ⟨[.ref S, .ref I], []⟩) R s := by
  have hSw : S ∉ wr := fun h => hSf (W.sub _ h)
  have up : ∀ b ∈ wr, b ∈ S :: wr := fun b hb => List.mem_cons_of_mem _ hb
  have moved : ∀ {s s' : Shared}, Moved wr G s s' → (∀ b o, h0.get? b = some o → s.heap.get? b = some o) → ∀ b o, h0.get? b = some o → s'.heap.get? b = some o := fun hm hkp b o e =>
    hm.heap b o (fun hb => by rw [hw0 b hb] at e; cases e) (hkp b o e)
  intro m
  induction m with
  | zero =>
    intro i s hm hi hst hkp ⟨L, es, ep, t, hS, g⟩ hR
    obtain rfl : i = n := by omega
    refine codeAny_builtin F.entry_set_update_loop ?_
    rw [Around.under_plainId F.plain_set_update_loop _]
    show wpAny _ A.in1 (pyNext (.ref I) >>= _) _ _ s
    refine wpAny_bind (W.done s _ _ hst fun s' hm => ?_)
    show wpAny _ A.in1 (ret Value.none) _ _ s'
    have hkp' := moved hm hkp
    exact wpAny_pure (hR s' L es ep t (hm.mono up) (hS.keep (fun o e => hm.heap S o hSw e) fun p hp => tup_keep (hk p (g.1 p hp)) hkp') g hkp')
  | succ m ih =>
    intro i s hm hi hst hkp ⟨L, es, ep, t, hS, g⟩ hR
    have hlt : i < n := by omega
    refine codeAny_builtin F.entry_set_update_loop ?_
    rw [Around.under_plainId F.plain_set_update_loop _]
    show wpAny _ A.in1 (pyNext (.ref I) >>= _) _ _ s
    refine wpAny_bind (W.item i s _ _ hlt hst fun v s' hP hst' hm => ?_)
    obtain ⟨p, hp, rfl⟩ := hval i v hP
    have hkp' := moved hm hkp
    have hS' : Kset knd s'.heap S L es ep t := hS.keep (fun o e => hm.heap S o hSw e) fun q hq => tup_keep (hk q (g.1 q hq)) hkp'
    have hx : TupAt knd s'.heap p.2 p.1 := tup_keep (hk p (List.mem_of_getElem? hp)) hkp'
    have hgl := g.2.2
    show wpAny _ A.in1 (holding [Value.ref p.1] (setAdd S (.ref p.1)) >>= _) _ _ s'
    refine wpAny_bind (wpAny_holding ?_)
    unfold setAdd
    refine wpAny_holding (wpAny_bind (wpAny_pyHash_tuple hu hx ?_))
    refine put_in (s := { s' with toks := s'.toks + (p.2.length + 1) }) lf hS' hx hu (by omega) fun b h' L' es' ep' t' hsb hS2 c1 c2 => ?_
    have hkp2 : ∀ b o, h0.get? b = some o → h'.get? b = some o := fun b o e => (hsb.2 b (fun z => by rw [z, hS0] at e; cases e)).trans (hkp' b o e)
    refine wpAny_pure ⟨plainId_quiet F.plain_set_update_loop _, ih (i + 1) _ (by omega) hlt (W.frame _ s' _ _ hst' (Nat.le_add_right _ _) fun b hb o e => ?_) hkp2 ⟨L', es', ep', t', hS2, g.next hp c1 c2⟩ fun s'' L2 es2 ep2 t2 hm'' hS'' g'' hkp'' => ?_⟩
    · rw [hsb.2 b (fun h : b = S => hSf (by rw [← h]; exact hb))]; exact e
    · refine hR s'' L2 es2 ep2 t2 (Moved.trans W.gtrans ((hm.mono up).then_heap (Nat.le_add_right _ _) fun b o hb e => ?_) hm'') hS'' g'' hkp''
      rw [hsb.2 b (fun h : b = S => hb (by rw [h]; exact List.mem_cons_self))]; exact e
/-- set(xs) -/
theorem set_of (lf : Leafy knd) {l : Addr} {items : Array Value} (ks : List (Addr × List κ)) {Q : Value → Shared → Prop} (hh : A.handled = none) (hl : s.heap.IsList l items) (hit : items.toList = ks.map fun p => Value.ref p.1)
    (hk : ∀ p ∈ ks, TupAt knd s.heap p.2 p.1) (hfew : ks.length < 64) (hu : A.units + 3 < cLine)
    (h : ∀ (h' : Heap) (tk : Nat) L es ep t, Kset knd h' s.heap.objs.size L es ep t → Met ks ks.length L → (∀ b o, s.heap.get? b = some o → h'.get? b = some o) → Q (.ref s.heap.objs.size) { s with heap := h', toks := tk }) :
    wpAny (model P w) A (call (.type "set") [.ref l]) Q E s := by
  have hisz : items.size = ks.length := by rw [← Array.length_toList, hit, List.length_map]
  obtain ⟨c, tl, hmro⟩ := F.called_set.mro
  have hmade := F.called_set.made
  have hsub := F.called_set.sub
  refine wpAny_call (codeAny_of_tree ?_)
  show wpAny _ _ (callAny (.type "set") _) _ _ _
  refine wpAny_pure ⟨Code.quiet_builtin _ (by decide +kernel), codeAny_builtin F.entry_type_call ?_⟩
  rw [Around.under_plain (weight_type_call_type "set" [.ref l] []) rfl]
  have h1 := F.called_set.notType
  have h2 := F.called_set.canCreate
  have hct := F.typeCall_set_1 (.ref l)
  repeat (any_goals (first | assumption | wp_step))
  generalize hled : (!w.params.followText "set-order") = led
  refine codeAny_mono (code_set_led1 (.ref l) (E := E) (Q₁ := fun obj s₁ => obj = .ref s.heap.objs.size ∧ s₁ = { s with heap := s.heap.push { cls := .type "set", dict := none, data := .set #[] 0 (.fresh 0 0 led) } }) ⟨rfl, by rw [hled]⟩) fun r s₁ hr => ?_
  cases r with
  | error e => exact hr
  | ok fl =>
    cases fl with
    | ret obj =>
      obtain ⟨rfl, rfl⟩ := hr
      have hS : (s.heap.push { cls := .type "set", dict := none, data := .set #[] 0 (.fresh 0 0 led) }).get? s.heap.objs.size = some { cls := .type "set", dict := none, data := .set #[] 0 (.fresh 0 0 led) } := Heap.get?_push_size _ rfl
      have hT : Shared.TypeIs { s with heap := s.heap.push { cls := .type "set", dict := none, data := .set #[] 0 (.fresh 0 0 led) } } (.ref s.heap.objs.size) "set" := ⟨_, hS, rfl⟩
      have hli := F.called_set.init.lookup
      have hbi := F.called_set.init.bind (.ref s.heap.objs.size)
      repeat (any_goals (first | assumption | wp_step))
      refine codeAny_mono (codeAny_call_builtin (R := wants (fun r s₂ => r = .none ∧ ∃ h' tk L es ep t, s₂ = { s with heap := h', toks := tk } ∧ Kset knd h' s.heap.objs.size L es ep t ∧ Met ks ks.length L ∧
          (∀ b o, s.heap.get? b = some o → h'.get? b = some o)) E) F.called_set.init.plain F.entry_set_init (check_set_init_1 hT ?_)) fun r₂ s₂ hr₂ => ?_
      · obtain ⟨⟨ocls, odict, odata, oslots⟩, hol, hcl, nl, hdl⟩ := hl
        simp only at hcl hdl
        subst hcl; subst hdl
        have hol' : (s.heap.push { cls := .type "set", dict := none, data := .set #[] 0 (.fresh 0 0 led) }).get? l = some { cls := .type "list", dict := odict, data := .seq items nl, slots := oslots } := Heap.get?_push_of_some _ hol
        have hsls := F.sub_list_set
        have hslf := F.sub_list_frozenset
        have hnd : (Value.type "list" == Value.type "dict") = false := by decide
        have hl1 : (s.heap.push { cls := .type "set", dict := none, data := .set #[] 0 (.fresh 0 0 led) }).IsList l items := ⟨_, hol', rfl, nl, rfl⟩
        unfold Builtin.«set.__init__» noKeywords Builtin.Frozenset.updateFrom
        generalize hPI : pyIter = PI
        wp_walk
        subst hPI
        refine wpAny_pyIter_list hl1 ?_
        refine wpAny_bind (wpAny_runValue ?_)
        have hlS : l < s.heap.objs.size := Heap.lt_size hol
        have hh3 : A.in1.in1.in1.handled = none := by simp [hh]
        have hneI : l ≠ (s.heap.push { cls := .type "set", dict := none, data := .set #[] 0 (.fresh 0 0 led) }).objs.size := by rw [Heap.size_push]; exact Nat.ne_of_lt (Nat.lt_succ_of_lt hlS)
        have hSf : s.heap.objs.size ∉ [(s.heap.push { cls := .type "set", dict := none, data := .set #[] 0 (.fresh 0 0 led) }).objs.size, l] := by
          rw [Heap.size_push]; simp only [List.mem_cons, List.not_mem_nil, or_false, not_or]
          exact ⟨Nat.ne_of_lt (Nat.lt_succ_self _), Nat.ne_of_gt hlS⟩
        have hval : ∀ (i : Nat) (v : Value), items[i]? = some v → ∃ p, ks[i]? = some p ∧ v = .ref p.1 := fun i v hv => by
          rw [← Array.getElem?_toList, hit, List.getElem?_map] at hv
          obtain ⟨p, hp, e⟩ := Option.map_eq_some_iff.mp hv
          exact ⟨p, hp, e.symm⟩
        have out : ∀ b, s.heap.objs.size ≤ b → s.heap.get? b = none := fun b hb => by
          cases q : s.heap.get? b with
          | none => rfl
          | some o => exact absurd (Nat.lt_of_lt_of_le (Heap.lt_size q) hb) (Nat.lt_irrefl _)
        refine fill lf ((Walks.list hh3 _ l hneI items).toS) s.heap.objs.size
          hSf ks hisz hfew hval s.heap hk (out _ (Nat.le_refl _)) (fun b hb => out b (by
            rw [List.mem_singleton.mp hb, Heap.size_push]; exact Nat.le_succ _)) hu (items.size - 0) 0 _ (by omega) (Nat.zero_le _)
          ⟨⟨_, Heap.get?_push_size _ rfl, rfl, rfl⟩, (hl1.push _)⟩ (fun b o e => Heap.get?_push_of_some _ (Heap.get?_push_of_some _ e)) ?hS0 ?hR
        case hS0 =>
          refine ⟨[], #[], 0, _, kset_new (led := led) ?_, fun p hp => (nomatch hp), fun k => (by simp), Nat.le_refl _⟩
          exact Heap.get?_push_of_some _ hS
        case hR =>
          intro s' L es ep t hm hS' g' hkp
          obtain ⟨h', g2, d', tk', os'⟩ := s'
          obtain rfl : g2 = s.gens := hm.gens
          obtain rfl : d' = s.drawn := hm.drawn
          obtain rfl : os' = s.os := hm.os
          refine wpAny_pure ?_
          show wpAny _ _ (ret Value.none) _ _ _
          rw [hisz] at g'
          exact wpAny_pure ⟨rfl, h', tk', L, es, ep, t, rfl, hS', g', hkp⟩
      · cases r₂ with
        | error e => exact hr₂
        | ok fl₂ =>
          cases fl₂ with
          | ret r =>
            obtain ⟨rfl, h', tk, L, es, ep, t, rfl, hS', g', hk'⟩ := hr₂
            repeat (any_goals (first | assumption | wp_step))
            exact h _ _ _ _ _ _ hS' g' hk'
          | _ => exact hr₂.elim
    | _ => exact hr.elim
end
section
variable {X : Cx}
/-- len(set(xs)), xs a list of tuples of texts: D are its unlike rows -/
def tLenSetT (K : PySem.W.Frag) (ta : TE) : TE := fun σ H Q => ta σ H fun x H1 => ∃ (l : Addr) (ks : List (Addr × List Str)) (D : List (List Str)), x = V.ref l ∧ SqL K H1 l (ks.map fun p => V.ref p.1) ∧ (∀ p ∈ ks, SqT K H1 p.1 (p.2.map V.str)) ∧ ks.length < 64 ∧
  D.Nodup ∧ (∀ k, k ∈ D ↔ k ∈ ks.map (·.2)) ∧ Q (.int (D.length : Nat)) H1
theorem items_str {P : Program} {w : World} : ∀ {k : List Str} {us : List Value}, Vals (k.map V.str) us → ItemsAre (strKind P w) k us
  | [], _, .nil => .nil
  | n :: k, _, .cons r t => by
    obtain ⟨tk, rfl⟩ := r
    exact .cons (strKind_is P w n tk) (items_str t)
theorem refs_str : ∀ {ks : List (Addr × List Str)} {us : List Value}, Vals (ks.map fun p => V.ref p.1) us → us = ks.map fun p => Value.ref p.1
  | [], _, .nil => rfl
  | p :: ks, _, .cons r t => by
    cases r
    rw [refs_str t]; rfl
theorem pe_lenSetT {a : PySem.Expr} {ta : TE} {p p2 q pos : Pos} (hc : X.calm = true) (hu : X.A.units + 64 < cLine) (hg : Gl X "len") (hm : X.mg "len" = none) (hg2 : Gl X "set") (hm2 : X.mg "set" = none) (ha : PE X a ta)
    (na : starEach [a] X.env = (false, eval a X.env) :: starEach [] X.env := by rfl) : PE X (.Call (.Name "len" p) [.Call (.Name "set" p2) [a] [] q] [] pos) (tLenSetT X.K ta) := by
  refine ⟨fun pins s σ H Q I h => ?_⟩
  refine Call_ (ld_blt I hg hm PySem.boot_len ?_)
  refine PyProof.Rows.callWith_builtin1 (PyProof.Rows.args_cons ?_ rfl) rfl rfl
  refine Call_ (ld_blt I hg2 hm2 PyProof.Rows.boot_set ?_)
  refine PyProof.Rows.callWith_type1 (PyProof.Rows.args_cons (thn (ha.run pins s σ H _ I h) fun v s1 ⟨x, H1, I1, r1, q1⟩ => PyProof.Rows.args_nil ?_) na) na rfl
  obtain ⟨l, ks, D, rfl, hl, hk, hf, hD, hmem, q1⟩ := q1
  cases r1
  obtain ⟨its, r, pl, hz⟩ := I1.list hl
  refine set_of (P := X.prog) (w := X.w) leafy_str ks (I1.ok.hd hc) pl.isList (by simpa using refs_str r) (fun p hp => ?_) hf (by omega) fun h' tk L es ep t R g k => ?_
  · obtain ⟨its, r, ⟨o, ho, hc, n, hd⟩, _⟩ := I1.tuple (hk p hp)
    exact ⟨o, its.toArray, n, ho, hc, hd, by simpa using items_str r⟩
  refine PyProof.Rows.args_nil ?_
  have hsz := rows_size R.rows
  have hfew := R.few
  have hf2 := Kset.fits (s := { s1 with heap := h', toks := tk }) R
  have hn : L.length = D.length := by
    have pm : (L.map (·.2)).Perm D := (List.perm_ext_iff_of_nodup R.nd hD).mpr fun k => by
      rw [g.2.1, List.take_length, hmem]
    have := pm.length_eq
    rwa [List.length_map] at this
  obtain ⟨o, ho, hex, hd⟩ := R.ob
  have I2 : Inv X pins σ H1 { s1 with heap := h', toks := tk } := I1.kept fun b o e => k b o e
  refine call_len_set ho hex hd hf2 (by omega) ⟨.int (D.length : Nat), H1, I2.tok _, ⟨_, by rw [hsz, hn]⟩, q1⟩
variable {K' : PySem.W.Frag} (hK : X.K = K')
include hK
theorem we_lenSetT {a : PySem.Expr} {ta : TE} {p p2 q pos : Pos} (hc : X.calm = true) (hu : X.A.units + 64 < cLine) (hg : Gl X "len") (hm : X.mg "len" = none) (hg2 : Gl X "set") (hm2 : X.mg "set" = none) (ha : PE X a ta)
    (na : starEach [a] X.env = (false, eval a X.env) :: starEach [] X.env := by rfl) : PE X (.Call (.Name "len" p) [.Call (.Name "set" p2) [a] [] q] [] pos) (tLenSetT K' ta) := hK ▸ pe_lenSetT hc hu hg hm hg2 hm2 ha na
end
section
variable {K : PySem.W.Frag} {H : Hp} {ρ : List Sl} {M M1 : Ms} {ta : TE}
/-- a list of rows of texts -/
abbrev dR (rows : List (List Str)) : PyData := .list (rows.map fun r => .tuple (r.map PyData.str))
theorem rows_of : ∀ {rows : List (List Str)} {vs : List V}, DpAll K H vs (rows.map fun r => .tuple (r.map PyData.str)) → ∃ ks : List (Addr × List Str), vs = ks.map (fun p => V.ref p.1) ∧ ks.map (·.2) = rows ∧ ∀ p ∈ ks, SqT K H p.1 (p.2.map V.str)
  | [], _, h => by cases h; exact ⟨[], rfl, rfl, fun p hp => nomatch hp⟩
  | r :: rows, _, h => by
    cases h with
    | cons h1 h2 =>
      obtain ⟨ks, e1, e2, e3⟩ := rows_of h2
      cases h1 with
      | tup g1 g2 =>
        rename_i a ys
        have e := dp_strs g2
        subst e
        refine ⟨(a, r) :: ks, by rw [e1]; rfl, by rw [List.map_cons, e2], fun p hp => ?_⟩
        rcases List.mem_cons.mp hp with z | z
        · rw [z]; exact .inl (.inl g1)
        · exact e3 p z
theorem ev_lenSetT {rows D : List (List Str)} (ha : Ev K ta ρ M (.dat (dR rows)) M1) (hf : rows.length < 64) (hD : D.Nodup) (hm : ∀ k, k ∈ D ↔ k ∈ rows) : Ev K (tLenSetT K ta) ρ M (.dat (.int (D.length : Nat))) M1 := fun F L σ H o Q q => ha F L σ H o _ fun x H1 o1 e1 a1 x1 => by
  obtain ⟨l, xs, rfl, h1, h2⟩ := list_of x1
  obtain ⟨ks, rfl, e2, e3⟩ := rows_of h2
  refine ⟨l, ks, D, rfl, SqL.vis h1, fun p hp => SqT.vis (e3 p hp), ?_, hD, fun k => by rw [hm, e2], q _ _ o1 e1 a1 (.int _)⟩
  rw [← List.length_map (f := (·.2)), e2]; exact hf
end
end Wm

/-! `in` a list of rows; rows of texts as lists; unlike rows. -/
namespace Wm
open PySem L2 PySem.Spec PyProof.Rows
theorem units65 {k : Nat} {A : Around} (r : Room k A) : A.units + 65 < cLine := by have := r.un; omega
section
variable {X : Cx} {K' : PySem.W.Frag} (hK : X.K = K')
include hK
theorem w_inD (hu : X.A.units + 65 < cLine) : OpR X (compareOp .In) (rInD K') := hK ▸ op_inD hu
theorem w_notInD (hu : X.A.units + 65 < cLine) : OpR X (compareOp .NotIn) (rNotInD K') := hK ▸ op_notInD hu
end
section
variable {K : PySem.W.Frag} {F F' H H' H0 H1 : Hp} {L : List Addr} {σ : L2.St} {ρ ρ' : List Sl} {M M' M1 M2 M3 : Ms}
variable {te ta tb tc ti : TE} {tt : TT} {tr : TA} {s s1 s2 : Sl} {d d1 d2 : PyData} {ds es : List PyData} {D : Ends} {tu tw tv : TS} {g : TG}
theorem ev_notInD (ha : Ev K ta ρ M (.dat d) M1) (hb : Ev K tb ρ M1 (.dat (.list ds)) M2) (h1 : SeqAt.shaped d = true) (h2 : SeqAt.shaped (.list ds) = true) : Ev K (tOp (rNotInD K) ta tb) ρ M (.dat (.bool (!ds.any fun z => PyData.eqv z d))) M2 :=
  ev_op ha hb fun F L σ H x y o hx hy Q q => ⟨d, ds, Dp.lo (Dp.mono (hid_le _ _) hx) (SeqAt.canLay_of_shaped h1), Dp.lo (Dp.mono (hid_le _ _) hy) (SeqAt.canLay_of_shaped h2), h1, h2, q _ H (Same.refl H) (.bl _)⟩
theorem ev_notInM {p : Addr} (ha : Ev K ta ρ M (.dat d) M1) (hb : Ev K tb ρ M1 (.loc (.ref p)) M2) (hp : (p, MO.lst ds) ∈ M2) (h1 : SeqAt.shaped d = true) (h2 : SeqAt.shaped (.list ds) = true) : Ev K (tOp (rNotInD K) ta tb) ρ M (.dat (.bool (!ds.any fun z => PyData.eqv z d))) M2 :=
  ev_op ha hb fun F L σ H x y o hx hy Q q => by
    have ey : y = .ref p := hy
    subst ey
    exact ⟨d, ds, Dp.lo (Dp.mono (hid_le _ _) hx) (SeqAt.canLay_of_shaped h1), loc_dp o hp (by simpa [PyData.canLay0] using SeqAt.canLay_of_shaped h2), h1, h2, q _ H (Same.refl H) (.bl _)⟩
/-- rows of texts, each a list -/
abbrev dL (rows : List (List Str)) : PyData := .list (rows.map fun r => .list (r.map PyData.str))
theorem sh_dL {rows : List (List Str)} (h : ∀ r ∈ rows, ∀ w ∈ r, PyData.strOk w = true) : Sh 2 (dL rows) := sh_list (sh_map fun r hr => sh_dS (h r hr))
theorem sh_dR {rows : List (List Str)} (h : ∀ r ∈ rows, ∀ w ∈ r, PyData.strOk w = true) : Sh 2 (dR rows) := sh_list (sh_map fun r hr => sh_dTS (h r hr))
theorem any_eqv (r : List Str) : ∀ rows : List (List Str), ((rows.map fun r => PyData.list (r.map PyData.str)).any fun z => PyData.eqv z (.list (r.map PyData.str))) = decide (r ∈ rows)
  | [] => rfl
  | x :: rows => by
    rw [List.map_cons, List.any_cons, any_eqv r rows, eqv_dS, Bool.eq_iff_iff, Bool.or_eq_true, decide_eq_true_eq, decide_eq_true_eq, decide_eq_true_eq, List.mem_cons]
    exact ⟨fun h => h.elim (fun e => .inl e.symm) .inr, fun h => h.elim (fun e => .inl e.symm) .inr⟩
theorem atI_map {α : Type} {f : α → PyData} {rows : List α} {i : Int} (dflt : α) (h0 : 0 ≤ i) (h1 : i < rows.length) : atI (rows.map f) i = some (f (rows.getD i.toNat dflt)) := by
  rw [atI_pos h0 (by rw [List.length_map]; exact h1), List.getElem?_map, List.getD_eq_getElem?_getD, List.getElem?_eq_getElem (by omega)]; rfl
theorem getD_map {α : Type} (f : α → PyData) (rows : List α) (i : Nat) (dflt : α) (h : i < rows.length) : (rows.map f).getD i .none = f (rows.getD i dflt) := by
  rw [List.getD_eq_getElem?_getD, List.getElem?_map, List.getD_eq_getElem?_getD, List.getElem?_eq_getElem h]; rfl
theorem ei_down {i j : Int} (h : EvA K tr ρ M [.dat (.int i), .dat (.int j), .dat (.int (-1))] M1) (hb : -(2 ^ 62) ≤ i ∧ i < 2 ^ 62 ∧ -(2 ^ 62) ≤ j ∧ j < 2 ^ 62 := by omega) : EvI K (iRng3 tr) ρ M (i - j).toNat (fun k => .int (i - (k : Nat))) M1 :=
  (ei_rng3 h (RgC.neg hb.1 hb.2.1 hb.2.2.1 hb.2.2.2)).congr fun k _ => by congr 1; omega
end
/-- the unlike ones -/
def dd : List (List Str) → List (List Str)
  | [] => []
  | r :: l => if r ∈ dd l then dd l else r :: dd l
theorem mem_dd {r : List Str} : ∀ {l : List (List Str)}, r ∈ dd l ↔ r ∈ l
  | [] => Iff.rfl
  | x :: l => by
    have ih := mem_dd (r := r) (l := l)
    unfold dd
    split
    · rename_i h
      rw [ih, List.mem_cons]
      exact ⟨.inr, fun z => z.elim (fun e => e ▸ (mem_dd.mp h)) id⟩
    · rw [List.mem_cons, List.mem_cons, ih]
theorem nd_dd : ∀ l : List (List Str), (dd l).Nodup
  | [] => List.nodup_nil
  | x :: l => by
    unfold dd
    split
    · exact nd_dd l
    · rename_i h
      exact List.nodup_cons.mpr ⟨h, nd_dd l⟩
theorem dd_le : ∀ l : List (List Str), (dd l).length ≤ l.length
  | [] => Nat.le_refl _
  | x :: l => by
    have := dd_le l
    unfold dd
    split
    · rw [List.length_cons]; omega
    · rw [List.length_cons, List.length_cons]; omega
theorem dd_len {l D : List (List Str)} (hD : D.Nodup) (hm : ∀ r, r ∈ D ↔ r ∈ l) : D.length = (dd l).length :=
  ((List.perm_ext_iff_of_nodup hD (nd_dd l)).mpr fun r => by rw [hm, mem_dd]).length_eq
end Wm
namespace Wm
open PySem L2 PySem.Spec PyProof.Rows
theorem sorted_uniq : ∀ {a b : List Int}, a.Perm b → a.Pairwise (· ≤ ·) → b.Pairwise (· ≤ ·) → a = b
  | [], b, p, _, _ => (List.nil_perm.mp p).symm
  | x :: a, [], p, _, _ => by have := p.length_eq; simp at this
  | x :: a, y :: b, p, ha, hb => by
    have hx := List.pairwise_cons.mp ha
    have hy := List.pairwise_cons.mp hb
    have e : x = y := by
      have h1 : x ∈ y :: b := p.mem_iff.mp List.mem_cons_self
      have h2 : y ∈ x :: a := p.mem_iff.mpr List.mem_cons_self
      rcases List.mem_cons.mp h1 with z | z
      · exact z
      · rcases List.mem_cons.mp h2 with z2 | z2
        · exact z2.symm
        · have := hy.1 x z
          have := hx.1 y z2
          omega
    subst e
    rw [sorted_uniq (List.Perm.cons_inv p) hx.2 hy.2]
section
variable {X : Cx} {K' : PySem.W.Frag} (hK : X.K = K')
include hK
theorem w_sortedI : CallR X (.builtin "sorted") (rSortedI K') := hK ▸ cr_sortedI
end
section
variable {K : PySem.W.Frag} {ρ : List Sl} {M M1 : Ms} {tr : TA}
theorem evn_sortedI {ns ms : List Int} (ha : EvA K tr ρ M [.dat (.list (ns.map PyData.int))] M1) (hp : ms.Perm ns) (hs : ms.Pairwise (· ≤ ·)) : EvN K (tCB (rSortedI K) tr) ρ M (ms.map PyData.int) M1 := fun F L σ H o Q q => ha F L σ H o _ fun vs H1 o1 e1 a1 x1 => by
  obtain ⟨v, rfl, h⟩ := one_of x1
  obtain ⟨a, ys, rfl, h1, h2⟩ := list_of h
  have e := dp_ints h2
  subst e
  refine ⟨a, ns, rfl, SqL.vis h1, fun ns' p pm pw hp' => ?_⟩
  rw [sorted_uniq (pm.trans hp.symm) pw hs]
  exact q p _ _ (back_none o o1 e1 a1 hp') (o1.lay hp') e1 (a1.trans (same_new hp')) upd_same ints_dp
end
end Wm
namespace Wm
open PySem
theorem nodup_sub {α : Type} [DecidableEq α] : ∀ {a b : List α}, a.Nodup → (∀ x, x ∈ a → x ∈ b) → a.length ≤ b.length
  | [], _, _, _ => Nat.zero_le _
  | x :: a, b, nd, h => by
    have hn := List.nodup_cons.mp nd
    have hx := h x List.mem_cons_self
    have ih := nodup_sub (b := b.erase x) hn.2 fun y hy => (List.mem_erase_of_ne fun e => hn.1 (by rw [← e]; exact hy)).mpr (h y (List.mem_cons_of_mem _ hy))
    rw [List.length_erase_of_mem hx] at ih
    have := List.length_pos_of_mem hx
    rw [List.length_cons]; omega
theorem dd_same {a b : List (List Str)} (h : ∀ r, r ∈ a ↔ r ∈ b) : (dd a).length = (dd b).length := dd_len (nd_dd a) fun r => by rw [mem_dd, h]
end Wm

/-! list(range(a, b, c)); two names for a list of two; lists of rows of ints. -/
namespace Wm
open PySem L2 PySem.Spec PyProof.Rows
section
variable {X : Cx}
def tLstRg3 (ta : TA) : TE := fun σ H Q => ta σ H fun vs H1 => ∃ (i j c : Int) (n : Nat), vs = [V.int i, .int j, .int c] ∧ RgC i j c n ∧ n ≤ 2 ^ 24 ∧ ∀ q, H1 q = none → Q (.ref q) (upd H1 q (.lst ((List.range n).map fun (k : Nat) => V.int (i + (k : Int) * c))))
theorem pe_listRg3 {a b c : PySem.Expr} {ta : TA} {p p2 q pos : Pos} (hc : X.calm = true) (hg : Gl X "list") (hm : X.mg "list" = none) (hg2 : Gl X "range") (hm2 : X.mg "range" = none) (ha : PA X [a, b, c] ta)
    (na : starEach [.Call (.Name "range" p2) [a, b, c] [] q] X.env = (false, eval (.Call (.Name "range" p2) [a, b, c] [] q) X.env) :: starEach [] X.env := by rfl)
    (hs : starEach [a, b, c] X.env = (false, eval a X.env) :: starEach [b, c] X.env := by rfl) (hpl : (backTo q (starEach [b, c] X.env)).any (·.1) = false := by rfl) :
    PE X (.Call (.Name "list" p) [.Call (.Name "range" p2) [a, b, c] [] q] [] pos) (tLstRg3 ta) := by
  refine ⟨fun pins s σ H Q I h => ?_⟩
  refine Call_ (ld_blt I hg hm boot_list (PyProof.Rows.callWith_type1 (PyProof.Rows.args_cons ?_ na) na))
  refine Call_ (ld_blt I hg2 hm2 boot_range (PyProof.Rows.callWith_type1 (thn (ha.run q pins s σ H _ I h) fun us s1 ⟨vs, H1, I1, r1, q1⟩ => ?_) hs hpl))
  obtain ⟨i, j, k, n, e, ⟨c0, c1, c2, c3⟩, hn, q1⟩ := q1
  subst e
  cases r1 with
  | cons r rr =>
    cases rr with
    | cons r' rr =>
      cases rr with
      | cons r'' rr =>
        cases rr
        obtain ⟨t, rfl⟩ := r
        obtain ⟨t', rfl⟩ := r'
        obtain ⟨t'', rfl⟩ := r''
        refine call_range_3 c0 ?_ (.inl (PyProof.noPylong_small c1))
        refine PyProof.Rows.args_nil ?_
        have I2 : Inv X pins σ H1 { s1 with heap := s1.heap.push { cls := .type "range", data := .fields #[.int i t, .int j t', .int k t''] } } := I1.kept (t' := s1.toks) fun b o e => Heap.get?_push_of_some _ e
        refine call_list_range (n := n) (I2.ok.hd hc) (IsRange.new ..) c2 c3 hn fun h' tk acc c' hk e' hi => ?_
        refine ⟨.ref _, upd H1 _ (.lst ((List.range n).map fun (m : Nat) => V.int (i + (m : Int) * k))), I2.laid hk (Nat.le_refl _) (show ObjOk X.prog X.w _ _ _ (.lst _) from ⟨?_, acc.toList, c', ?_, ?_⟩), rfl, q1 _ (I2.hok.fresh (Nat.le_refl _))⟩
        · rw [List.length_map, List.length_range, sizeLine_eq]; omega
        · have el : acc.toList.length = n := by rw [Array.length_toList]; exact hi.1
          rw [← el]
          refine vals_of_get acc.toList _ fun m u hm => ?_
          exact hi.2 m u (by rw [← hm, Array.getElem?_toList])
        · rw [Array.toArray_toList]; exact e'
end
section
variable {K : PySem.W.Frag} {F F' H H' H0 H1 : Hp} {L : List Addr} {σ : L2.St} {ρ ρ' : List Sl} {M M' M1 M2 M3 : Ms}
variable {te ta tb tc ti : TE} {tt : TT} {tr : TA} {s s1 s2 : Sl} {d d1 d2 : PyData} {ds es : List PyData} {D : Ends} {tu tw tv : TS} {g : TG}
theorem evn_listR3 {i j c : Int} {n : Nat} (h : EvA K tr ρ M [.dat (.int i), .dat (.int j), .dat (.int c)] M1) (hr : RgC i j c n) (hn : n ≤ 100000) : EvN K (tLstRg3 tr) ρ M (((List.range n).map fun (k : Nat) => i + (k : Int) * c).map PyData.int) M1 := fun F L σ H o Q q => h F L σ H o _ fun vs H1 o1 e1 a1 x1 => by
  have e : vs = [V.int i, .int j, .int c] := by
    cases x1 with
    | cons r1 r2 =>
      cases r2 with
      | cons r2 r3 =>
        cases r3 with
        | cons r3 r4 =>
          cases r4
          rw [int_of r1, int_of r2, int_of r3]
  refine ⟨i, j, c, n, e, hr, by omega, fun p hp => q p _ _ (back_none o o1 e1 a1 hp) (o1.lay hp) e1 (a1.trans (same_new hp)) upd_same ?_⟩
  rw [show ((List.range n).map fun (k : Nat) => V.int (i + (k : Int) * c)) = ((List.range n).map fun (k : Nat) => i + (k : Int) * c).map V.int by rw [List.map_map]; rfl]
  exact ints_dp
/-- a, b = e, e a list of two data -/
theorem s_asg2L {i j : Nat} (h : Ev K te ρ M (.dat (.list [d1, d2])) M1) (k : ∀ σ H, Ok K F L σ H ((ρ.set i (.dat d1)).set j (.dat d2)) M1 → D.nx σ H) (o : Ok K F L σ H ρ M) : tAsg te (gLst K 2 (gCons (gName i) (gCons (gName j) gNil))) D σ H := h F L σ H o _ fun v H1 o1 e1 a1 x1 => by
  obtain ⟨a, xs, rfl, h1, h2⟩ := list_of x1
  refine ⟨a, xs, rfl, SqL.vis h1, h2.length, ?_⟩
  cases h2 with
  | cons g1 g2 =>
    cases g2 with
    | cons g2 g3 =>
      cases g3
      refine g_cons (g_cons (g_nil (k _ _ (Ok.set (Ok.set o1 ?_) ?_))))
      · show Dp K _ _ _; rw [e1]; exact g1
      · show Dp K _ _ _; rw [e1]; exact g2
theorem q_asg2L {i j : Nat} (h : Ev K te ρ M (.dat (.list [d1, d2])) M1) (k : ∀ σ H, Ok K F L σ H ((ρ.set i (.dat d1)).set j (.dat d2)) M1 → tv D σ H) (o : Ok K F L σ H ρ M) : tSeq (tAsg te (gLst K 2 (gCons (gName i) (gCons (gName j) gNil)))) tv D σ H := s_asg2L (D := { D with nx := tv D }) h k o
theorem rg_two : ∀ m : Nat, m < 61 → Builtin.Range.small 1 ((m : Int) + 1) 2 = true ∧ Builtin.Range.rangeSize 1 ((m : Int) + 1) 2 = (((m + 1) / 2 : Nat) : Int) := by decide +kernel
theorem rgC_two {n : Int} (h : 1 ≤ n ∧ n ≤ 60) : RgC 1 (n + 1) 2 ((n.toNat + 1) / 2) := by
  have := rg_two n.toNat (by omega)
  rw [show ((n.toNat : Nat) : Int) = n by omega] at this
  exact ⟨by decide, by decide, this.1, this.2⟩
end
end Wm

/-! objects: instances, their fields and methods, dicts with text keys and with tuple keys, list(d.values()). -/
namespace Wm
open PySem L2 PySem.Spec PyProof.Rows
/-! ### list(d.values()) -/
def tListVals (te : TE) : TE := fun σ H Q => te σ H fun x H1 => ∃ d kvs, x = .ref d ∧ H1 d = some (.dK kvs) ∧ ∀ p, H1 p = none → Q (.ref p) (upd H1 p (.lst (kvs.map (·.2))))
section
variable {X : Cx} {e : Expr} {te : TE} {p apos cpos pos : Pos}
theorem pe_listVals (hc : X.calm = true) (he : PE X e te) (hg : Gl X "list") (hm : X.mg "list" = none) (hv : bootBuiltins "list" = some (.type "list")) (hbase : attributeBase e "values" X.env (eval e X.env) = eval e X.env := by rfl) (hline : (apos.endLine == cpos.line) = true := by rfl)
    (hs : starEach [.Call (.Attribute e "values" apos) [] [] cpos] X.env = (false, eval (.Call (.Attribute e "values" apos) [] [] cpos) X.env) :: starEach [] X.env := by rfl) :
    PE X (.Call (.Name "list" p) [.Call (.Attribute e "values" apos) [] [] cpos] [] pos) (tListVals te) := by
  refine ⟨fun pins s σ H Q I hq => ?_⟩
  refine wpAny_Call_Name_kw (ld_blt I hg hm hv ?_)
  refine PyProof.Rows.callWith_type1 ?_ hs rfl
  rw [hs]
  show wpAny _ _ (spliced ((false, eval (.Call (.Attribute e "values" apos) [] [] cpos) X.env) :: backTo pos (starEach [] X.env))) _ _ s
  refine Calls.spliced_cons ?_
  refine wpAny_Call_method (T := "dict") (id := "dict.values") hbase rfl hline F.plainAttrs_dict F.slot_dict_values F.type_dict_values (thn (he.run pins s σ H _ I hq) fun u s1 ⟨x, H1, I1, rx, d, kvs, ex, hd, q⟩ => ?_)
  subst ex
  obtain rfl : u = Value.ref d := rx
  obtain ⟨hz, hs0, vs, kv, hdo⟩ := I1.hok d _ hd
  obtain ⟨ep, hat⟩ := hdo.dictAt
  have lk : kvs.length = vs.length := Paired.length kv
  have I2 : Inv X pins σ H1 { s1 with heap := s1.heap.push { cls := .type "dict_values", data := .fields #[.ref d] } } := I1.kept (t' := s1.toks) fun b ob q => Heap.get?_push_of_some _ q
  refine ⟨hdo.typeIs, hdo.mapOf.noDict, ?_⟩
  show wpAny _ _ (callWith cpos (.builtin "dict.values") [.ref d] [] []) _ X.xe s1
  refine method_meetsIn F.slot_dict_values F.entry_dict_values rfl (PySem.evalArgs_none ⟨rfl, hdo.typeIs, F.args_dict_values_1 _, _, meets_dict_values (mixKind X.prog X.w) d hs0, ⟨vs, hdo⟩, ?_⟩)
  refine Calls.spliced_nil ?_
  refine PySem.W.kdl_call (PySem.W.kdl_values (knd := mixKind X.prog X.w) (kvs := vs) (ep := ep)) (I1.ok.hd hc) ⟨⟨_, Heap.get?_push_size _ rfl, rfl, rfl⟩, hat.push _⟩ (by rw [← lk]; exact hz) fun h' tk acc' c' hkeep hS hacc => ?_
  refine ⟨.ref _, upd H1 _ (.lst (kvs.map (·.2))), I2.laid hkeep (Nat.le_refl _) (show ObjOk X.prog X.w _ _ _ (.lst (kvs.map (·.2))) from ⟨?_, acc'.toList, c', ?_, ?_⟩), rfl, q _ (I2.hok.fresh (Nat.le_refl _))⟩
  · rw [List.length_map]; exact hz
  · have el : acc'.toList.length = acc'.size := by simp
    refine vals_of_at (by rw [List.length_map, el, hacc.1, lk]) fun j x w h1 h2 => ?_
    obtain ⟨k, hk⟩ := hacc.2 j w (by rw [← Array.getElem?_toList]; exact h2)
    obtain ⟨y, g1, g2⟩ := KV.at' kv hk
    have e2 : (kvs.map (·.2))[j]? = some y := by rw [List.getElem?_map, g1] <;> rfl
    rw [e2] at h1
    cases h1
    exact g2
  · rw [Array.toArray_toList]; exact hS
end
theorem sw_three {x y z : Str} {px py pz pt pt2 : Pos} {a b c : PySem.Expr} {kt k2 : _} {env : Env} (hk : env.scope.kind = .function) (hx : env.scope.names.lookup x = some .local) (hy : env.scope.names.lookup y = some .local) (hz : env.scope.names.lookup z = some .local) (hl : (py.line == px.line) = true) (hl2 : (pz.line == px.line) = true)
    (hne : (y == x) = false) (hne2 : (z == x) = false) (hne3 : (z == y) = false) (hs : ([a, b, c].any fun | .Starred .. => true | _ => false) = false) (h1 : [a, b, c].all (foldedForSure 8) = false) (h2 : [a, b, c].all (constantsAlone 8) = false) :
    swappedStores [.Tuple [.Name x px, .Name y py, .Name z pz] kt pt] (.Tuple [a, b, c] k2 pt2) env = pure (some [x, y, z]) := by
  have kx : env.kindOf x = some .local := hx
  have ky : env.kindOf y = some .local := hy
  have kz : env.kindOf z = some .local := hz
  have hb : env.blockKind = .function := by unfold Env.blockKind; rw [hk]; rfl
  have e1 : [PySem.Expr.Name x px, .Name y py, .Name z pz].filterMap (fun
    | .Name id pos => if env.kindOf id == some .local && pos.line == px.line then some id else none
    | _ => none) = [x, y, z] := by
    simp only [List.filterMap_cons, kx, ky, kz, beq_self_eq_true, Bool.true_and, hl, hl2, if_true, List.filterMap_nil]
  have e2 : [x, y, z].eraseDups = [x, y, z] := by
    rw [List.eraseDups_cons, List.filter_cons, List.filter_cons]
    simp [hne, hne2, hne3, List.eraseDups_cons, List.filter_cons]
  unfold swappedStores
  dsimp only
  refine (if_neg ?_).trans ((if_neg ?_).trans ((if_neg ?_).trans ((if_neg ?_).trans ((if_neg ?_).trans ?_))))
  · rw [hb]; exact fun z => nomatch z
  · rw [Bool.not_eq_true]; exact hs
  · refine (congrArg (fun l : List Str => ¬ (l.length != 3 || l.eraseDups.length != l.length) = true) e1).mpr ?_
    rw [e2]; exact fun z => nomatch z
  · rw [Bool.not_eq_true]; exact h1
  · rw [Bool.not_eq_true]; exact h2
  · exact congrArg (fun l : List Str => (pure (some l) : Sem _)) e1
/-! ### dicts as data -/
section
variable {κ : Type} [DecidableEq κ]
def valD : List (κ × PyData) → κ → Option PyData
  | [], _ => none
  | e :: r, k => if e.1 = k then some e.2 else valD r k
def putD (kvs : List (κ × PyData)) (k : κ) (d : PyData) : List (κ × PyData) :=
  match valD kvs k with
  | none => kvs ++ [(k, d)]
  | some _ => kvs.map fun e => if e.1 = k then (e.1, d) else e
theorem valD_put (k j : κ) (d : PyData) : ∀ kvs : List (κ × PyData), valD (putD kvs k d) j = if j = k then some d else valD kvs j := by
  have new : ∀ kvs : List (κ × PyData), valD kvs k = none → valD (kvs ++ [(k, d)]) j = if j = k then some d else valD kvs j := fun kvs => by
    induction kvs with
    | nil =>
      intro _
      show (if k = j then some d else none) = _
      by_cases e : j = k
      · rw [if_pos e, if_pos e.symm]
      · rw [if_neg e, if_neg (fun z => e z.symm)]; rfl
    | cons a r ih =>
      intro h
      have h2 : ¬ a.1 = k := fun z => by
        have h' : (if a.1 = k then some a.2 else valD r k) = none := h
        rw [if_pos z] at h'; cases h'
      have h3 : valD r k = none := by
        have h' : (if a.1 = k then some a.2 else valD r k) = none := h
        rwa [if_neg h2] at h'
      show (if a.1 = j then some a.2 else valD (r ++ [(k, d)]) j) = if j = k then some d else if a.1 = j then some a.2 else valD r j
      rw [ih h3]
      by_cases e : a.1 = j
      · rw [if_pos e, if_pos e, if_neg (fun z => h2 (e.trans z))]
      · rw [if_neg e, if_neg e]
  have old : ∀ kvs : List (κ × PyData), valD (kvs.map fun e => if e.1 = k then (e.1, d) else e) j = if j = k then (valD kvs k).map (fun _ => d) else valD kvs j := fun kvs => by
    induction kvs with
    | nil => show none = _; by_cases e : j = k <;> simp [e, valD]
    | cons a r ih =>
      rw [List.map_cons]
      by_cases h : a.1 = k
      · rw [if_pos h]
        show (if a.1 = j then some d else valD _ j) = _
        rw [ih]
        by_cases e : j = k
        · rw [if_pos (h.trans e.symm), if_pos e]
          show _ = Option.map (fun _ => d) (if a.1 = k then some a.2 else valD r k)
          rw [if_pos h]; rfl
        · rw [if_neg (fun z => e (z.symm.trans h)), if_neg e, if_neg e]
          show _ = if a.1 = j then some a.2 else valD r j
          rw [if_neg (fun z => e (z.symm.trans h))]
      · rw [if_neg h]
        show (if a.1 = j then some a.2 else valD _ j) = _
        rw [ih]
        by_cases e : j = k
        · subst e
          rw [if_neg h, if_pos rfl, if_pos rfl]
          show _ = Option.map (fun _ => d) (if a.1 = j then some a.2 else valD r j)
          rw [if_neg h]
        · rw [if_neg e, if_neg e]
          rfl
  intro kvs
  unfold putD
  split
  · rename_i e; exact new kvs e
  · rename_i x e
    rw [old kvs, e]; rfl
theorem putD_keys (k : κ) (d : PyData) (kvs : List (κ × PyData)) : (putD kvs k d).map (·.1) = if valD kvs k = none then kvs.map (·.1) ++ [k] else kvs.map (·.1) := by
  unfold putD
  split
  · rename_i e; rw [if_pos e, List.map_append]; rfl
  · rename_i x e
    rw [if_neg (by rw [e]; exact fun z => nomatch z), List.map_map]
    refine List.map_congr_left fun a _ => ?_
    show (if a.1 = k then (a.1, d) else a).1 = a.1
    split <;> rfl
theorem valD_none {k : κ} : ∀ {kvs : List (κ × PyData)}, valD kvs k = none → k ∉ kvs.map (·.1)
  | [], _ => by simp
  | a :: r, h => by
    have h' : (if a.1 = k then some a.2 else valD r k) = none := h
    by_cases e : a.1 = k
    · rw [if_pos e] at h'; cases h'
    · rw [if_neg e] at h'
      rw [List.map_cons, List.mem_cons]
      rintro (z | z)
      · exact e z.symm
      · exact valD_none h' z
theorem valD_some {k : κ} {d : PyData} : ∀ {kvs : List (κ × PyData)}, valD kvs k = some d → (k, d) ∈ kvs
  | [], h => by cases h
  | a :: r, h => by
    have h' : (if a.1 = k then some a.2 else valD r k) = some d := h
    by_cases e : a.1 = k
    · rw [if_pos e] at h'
      cases h'
      rw [← e]; exact List.mem_cons_self
    · rw [if_neg e] at h'
      exact List.mem_cons_of_mem _ (valD_some h')
abbrev DD (K : PySem.W.Frag) (H : Hp) : List (κ × V) → List (κ × PyData) → Prop := Paired fun g f => g.1 = f.1 ∧ Dp K H g.2 f.2
variable {K : PySem.W.Frag} {H : Hp}
theorem DD.no {k : κ} : ∀ {gs : List (κ × V)} {fs : List (κ × PyData)}, DD K H gs fs → valD fs k = none → valV gs k = none
  | _, _, .nil, _ => rfl
  | g :: gs, f :: fs, .cons r t, h => by
    have h' : (if f.1 = k then some f.2 else valD fs k) = Option.none := h
    by_cases e : f.1 = k
    · rw [if_pos e] at h'; cases h'
    · rw [if_neg e] at h'
      rw [valV_neg (fun z => e (r.1.symm.trans z))]
      exact DD.no t h'
theorem DD.yes {k : κ} {d : PyData} : ∀ {gs : List (κ × V)} {fs : List (κ × PyData)}, DD K H gs fs → valD fs k = some d → ∃ v, valV gs k = some v ∧ Dp K H v d
  | _, _, .nil, h => by cases h
  | g :: gs, f :: fs, .cons r t, h => by
    have h' : (if f.1 = k then some f.2 else valD fs k) = Option.some d := h
    by_cases e : f.1 = k
    · rw [if_pos e] at h'
      cases h'
      exact ⟨g.2, valV_pos (r.1.trans e), r.2⟩
    · rw [if_neg e] at h'
      rw [valV_neg (fun z => e (r.1.symm.trans z))]
      exact DD.yes t h'
theorem DD.put {gs : List (κ × V)} {fs : List (κ × PyData)} (r : DD K H gs fs) (k : κ) {v : V} {d : PyData} (hv : Dp K H v d) : DD K H (putK gs k v) (putD fs k d) := by
  unfold putD
  split
  · rename_i e
    rw [putK_new v (r.no e)]
    exact paired_app r (.cons ⟨rfl, hv⟩ .nil)
  · rename_i x e
    obtain ⟨y, h1, h2⟩ := r.yes e
    unfold putK
    rw [valV_any, h1, if_pos (show (some y : Option V).isSome = true from rfl)]
    clear e h1 h2
    induction r with
    | nil => exact .nil
    | cons r t ih =>
      rw [List.map_cons, List.map_cons]
      refine .cons ?_ ih
      split
      · rename_i e; rw [if_pos (r.1.symm.trans e)]; exact ⟨r.1, hv⟩
      · rename_i e; rw [if_neg (fun z => e (r.1.trans z))]; exact r
theorem DD.vals : ∀ {gs : List (κ × V)} {fs : List (κ × PyData)}, DD K H gs fs → DpAll K H (gs.map (·.2)) (fs.map (·.2))
  | _, _, .nil => .nil
  | _, _, .cons r t => .cons r.2 (DD.vals t)
theorem DD.mono {H' : Hp} {gs : List (κ × V)} {fs : List (κ × PyData)} (s : Same H H') (r : DD K H gs fs) : DD K H' gs fs := Paired.mapP r fun _ _ q => ⟨q.1, Dp.mono s q.2⟩
theorem DD.len {gs : List (κ × V)} {fs : List (κ × PyData)} (r : DD K H gs fs) : gs.length = fs.length := paired_len r
end
def keyD : Key → PyData
  | .inl i => .int i
  | .inr x => .str x
abbrev tupK (ks : List Key) : PyData := .tuple (ks.map keyD)
section
variable {K : PySem.W.Frag} {H : Hp}
theorem keyD_of {k : Key} {v : V} (h : Dp K H v (keyD k)) : v = kV k := by
  cases k with
  | inl i => exact int_of (K := K) (H := H) h
  | inr x => exact str_of (K := K) (H := H) h
theorem keysD_of : ∀ {ks : List Key} {vs : List V}, DpAll K H vs (ks.map keyD) → vs = ks.map kV
  | [], _, h => by cases h; rfl
  | k :: ks, _, h => by
    cases h with
    | cons h1 h2 => rw [keyD_of h1, keysD_of h2]; rfl
theorem tupK_key {ks : List Key} {v : V} {X : List Addr} (h : Dp K (hid X H) v (tupK ks)) : ∃ b, v = .ref b ∧ H b = some (.tup (ks.map kV)) := by
  obtain ⟨b, xs, rfl, h1, h2⟩ := tupK_of (K := K) (H := hid X H) h
  have e := keysD_of h2
  subst e
  exact ⟨b, rfl, (hid_some h1).2⟩
end
/-! ### fields -/
def putS (f : Str) (s : Sl) : List (Str × Sl) → List (Str × Sl)
  | [] => [(f, s)]
  | (g, x) :: r => if g = f then (g, s) :: r else (g, x) :: putS f s r
abbrev FF (K : PySem.W.Frag) (H : Hp) : List (Str × V) → List (Str × Sl) → Prop := Paired fun g f => g.1 = f.1 ∧ SlOk K H g.2 f.2
section
variable {K : PySem.W.Frag} {H H' : Hp}
theorem FF.look {f : Str} {s : Sl} : ∀ {gs : List (Str × V)} {fs : List (Str × Sl)}, FF K H gs fs → fs.lookup f = some s → ∃ v, gs.lookup f = some v ∧ SlOk K H v s
  | _, _, .nil, h => by cases h
  | (g, x) :: gs, (g', y) :: fs, .cons r t, h => by
    obtain ⟨r1, r2⟩ := r
    cases r1
    rw [List.lookup_cons] at h ⊢
    cases e : f == g with
    | true => rw [e] at h; cases h; exact ⟨x, rfl, r2⟩
    | false => rw [e] at h; exact FF.look t h
theorem FF.none {f : Str} : ∀ {gs : List (Str × V)} {fs : List (Str × Sl)}, FF K H gs fs → fs.lookup f = none → gs.lookup f = none
  | _, _, .nil, h => rfl
  | (g, x) :: gs, (g', y) :: fs, .cons r t, h => by
    obtain ⟨r1, r2⟩ := r
    cases r1
    rw [List.lookup_cons] at h ⊢
    cases e : f == g with
    | true => rw [e] at h; cases h
    | false => rw [e] at h; exact FF.none t h
theorem FF.put {f : Str} {v : V} {s : Sl} (h : SlOk K H v s) : ∀ {gs : List (Str × V)} {fs : List (Str × Sl)}, FF K H gs fs → FF K H (putF f v gs) (putS f s fs)
  | _, _, .nil => .cons ⟨rfl, h⟩ .nil
  | (g, x) :: gs, (g', y) :: fs, .cons r t => by
    obtain ⟨r1, r2⟩ := r
    cases r1
    show FF K H (if g = f then (g, v) :: gs else (g, x) :: putF f v gs) (if g = f then (g, s) :: fs else (g, y) :: putS f s fs)
    by_cases e : g = f
    · rw [if_pos e, if_pos e]; exact .cons ⟨rfl, h⟩ t
    · rw [if_neg e, if_neg e]; exact .cons ⟨rfl, r2⟩ (FF.put h t)
theorem FF.mono (s : Same H H') {gs : List (Str × V)} {fs : List (Str × Sl)} (r : FF K H gs fs) : FF K H' gs fs := Paired.mapP r fun _ _ q => ⟨q.1, q.2.mono s⟩
end
section
variable {K : PySem.W.Frag} {F F' H H' H0 H1 : Hp} {L : List Addr} {σ σ' : L2.St} {ρ ρ' : List Sl} {M M' M0 M1 M2 M3 Mn : Ms}
variable {te ta tb tc ti td ty tx tv : TE} {tt : TT} {tr : TA} {s s1 s2 : Sl} {ss : List Sl} {d d1 d2 d3 : PyData} {ds es : List PyData} {D : Ends} {tu tw : TS} {g : TG} {p q : Addr} {C : Addr} {fs : List (Str × Sl)} {f m : Str}
theorem ev_fld (ha : Ev K ta ρ M (.loc (.ref p)) M1) (hp : (p, MO.ins C fs) ∈ M1) (hc : Cls K C) (hn : NoAttr K C f) (hl : fs.lookup f = some s) : Ev K (tFld K ta f) ρ M s M1 := fun F L σ H o Q q => ha F L σ H o _ fun x H1 o1 e1 a1 x1 => by
  have ex : x = .ref p := x1
  subst ex
  obtain ⟨dx, gs, h1, h2⟩ := o1.ob _ hp
  obtain ⟨v, h3, h4⟩ := FF.look h2 hl
  exact ⟨p, C, dx, gs, v, rfl, h1, hc, hn, h3, q v H1 o1 e1 a1 (by rw [← e1]; exact h4)⟩
/-! ### statements: o.f = e -/
theorem putS_ok (o : Ok K F L σ H ρ M) {j : Nat} {v : V} (hj : M[j]? = some (p, .ins C fs)) (hv : SlOk K (hid (L ++ ad M) H) v s) : ∃ dx gs, H p = some (.ins C dx gs) ∧ gs.length = fs.length ∧ Ok K F L σ (upd H p (.ins C dx (putF f v gs))) ρ (M.set j (p, .ins C (putS f s fs))) := by
  obtain ⟨dx, gs, h1, h2⟩ := o.ob _ (List.mem_of_getElem? hj)
  refine ⟨dx, gs, h1, paired_len h2, o.change hj (same_hid_upd (by simp)) ⟨dx, _, upd_same, ?_⟩ (live_upd o)⟩
  rw [hid_upd (List.mem_append_right _ (mem_ad hj))]
  exact FF.put hv h2
theorem s_fld {j : Nat} (hv : Ev K tv ρ M s M1) (ha : Ev K ta ρ M1 (.loc (.ref p)) M2) (hj : M2[j]? = some (p, .ins C fs)) (hc : Cls K C) (hn : NoAttr K C f) (hl : fs.length < 1000)
    (k : ∀ H, Ok K F L σ H ρ (M2.set j (p, .ins C (putS f s fs))) → D.nx σ H) (o : Ok K F L σ H ρ M) : sFld K ta tv f D σ H := hv F L σ H o _ fun y H1 o1 e1 a1 y1 => ha F L σ H1 o1 _ fun x H2 o2 e2 a2 x2 => by
  have ex : x = .ref p := x2
  subst ex
  obtain ⟨dx, gs, h1, h2, h3⟩ := putS_ok (f := f) (s := s) o2 hj (v := y) (by rw [e2.trans e1]; exact later e1 a2 y1)
  exact ⟨p, C, dx, gs, rfl, h1, hc, hn, by rw [h2]; exact hl, k _ h3⟩
/-- a new object's place in a field -/
theorem s_fldNew {j : Nat} {x : MO} (hv : ∀ F L σ H, Ok K F L σ H ρ M → ∀ Q : VK, (∀ q H1, F q = none → q ∉ ad M → Ok K F L σ H1 ρ (M ++ [(q, x)]) → Same (hid (ad M) H) H1 → Q (.ref q) H1) → tv σ H Q)
    (ha : ∀ q, Ev K ta ρ (M ++ [(q, x)]) (.loc (.ref p)) (M ++ [(q, x)])) (hj : M[j]? = some (p, .ins C fs)) (hc : Cls K C) (hn : NoAttr K C f) (hl : fs.length < 1000)
    (k : ∀ q H, Ok K F L σ H ρ ((M ++ [(q, x)]).set j (p, .ins C (putS f (.loc (.ref q)) fs))) → D.nx σ H) (o : Ok K F L σ H ρ M) : sFld K ta tv f D σ H := hv F L σ H o _ fun q H1 hf hm o1 a1 => ha q F L σ H1 o1 _ fun x H2 o2 e2 a2 x2 => by
  have ex : x = .ref p := x2
  subst ex
  obtain ⟨dx, gs, h1, h2, h3⟩ := putS_ok (f := f) (s := .loc (.ref q)) (v := .ref q) o2 (j := j) (p := p) (C := C) (fs := fs) (by rw [List.getElem?_append_left (List.getElem?_eq_some_iff.mp hj).1]; exact hj) rfl
  exact ⟨p, C, dx, gs, rfl, h1, hc, hn, by rw [h2]; exact hl, k q _ h3⟩
theorem new_dict (o : Ok K F L σ H ρ M) {x : HO} {y : MO} (hq : H q = none) (hy : ∀ G, MOk K G (upd H q x) q y) : F q = none ∧ q ∉ ad M ∧ Ok K F L σ (upd H q x) ρ (M ++ [(q, y)]) ∧ Same (hid (ad M) H) (upd H q x) := by
  have hm := mem_ad_of (Q := fun _ => True) o hq
  have o1 := o.lay (x := x) hq
  exact ⟨o.fr.free hq, hm, Ok.add o1.lift o1.sl o1.ob hm (o.fr.free hq) (hy _), (hid_le _ _).trans (same_new hq)⟩
theorem nw_dT : ∀ F L σ H, Ok K F L σ H ρ M → ∀ Q : VK, (∀ q H1, F q = none → q ∉ ad M → Ok K F L σ H1 ρ (M ++ [(q, .dT [])]) → Same (hid (ad M) H) H1 → Q (.ref q) H1) → tDNewT σ H Q := fun F L σ H o Q k q hq => by
  obtain ⟨h1, h2, h3, h4⟩ := new_dict (y := .dT []) (x := .dT []) o hq fun G => ⟨[], upd_same, .nil⟩
  exact k q _ h1 h2 h3 h4
theorem nw_dK : ∀ F L σ H, Ok K F L σ H ρ M → ∀ Q : VK, (∀ q H1, F q = none → q ∉ ad M → Ok K F L σ H1 ρ (M ++ [(q, .dK [])]) → Same (hid (ad M) H) H1 → Q (.ref q) H1) → tDNewK σ H Q := fun F L σ H o Q k q hq => by
  obtain ⟨h1, h2, h3, h4⟩ := new_dict (y := .dK []) (x := .dK []) o hq fun G => ⟨[], upd_same, .nil⟩
  exact k q _ h1 h2 h3 h4
theorem nw_list (h : EvN K te ρ M ds M) : ∀ F L σ H, Ok K F L σ H ρ M → ∀ Q : VK, (∀ q H1, F q = none → q ∉ ad M → Ok K F L σ H1 ρ (M ++ [(q, .lst ds)]) → Same (hid (ad M) H) H1 → Q (.ref q) H1) → te σ H Q := fun F L σ H o Q k => h F L σ H o _ fun p vs H1 hp o1 e1 a1 h1 h2 => by
  have hm : p ∉ ad M := mem_ad_of (Q := fun _ => True) o hp
  exact k p H1 (o.fr.free hp) hm (Ok.add o1.lift o1.sl o1.ob hm (o.fr.free hp) ⟨vs, h1, h2⟩) a1
/-- a name for a new object -/
theorem s_asgNw {i : Nat} {x : MO} (hv : ∀ F L σ H, Ok K F L σ H ρ M → ∀ Q : VK, (∀ q H1, F q = none → q ∉ ad M → Ok K F L σ H1 ρ (M ++ [(q, x)]) → Same (hid (ad M) H) H1 → Q (.ref q) H1) → te σ H Q)
    (k : ∀ q σ H, Ok K F L σ H (ρ.set i (.loc (.ref q))) (M ++ [(q, x)]) → D.nx σ H) (o : Ok K F L σ H ρ M) : tAsg te (gName i) D σ H := hv F L σ H o _ fun q H1 hf hm o1 a1 => k q _ _ (o1.set rfl)
/-! ### dicts -/
theorem dK_at (o : Ok K F L σ H ρ M) {kvs : List (Key × PyData)} (hp : (p, MO.dK kvs) ∈ M) : ∃ ks, H p = some (.dK ks) ∧ DD K (hid (L ++ ad M) H) ks kvs := o.ob _ hp
theorem dT_at (o : Ok K F L σ H ρ M) {kvs : List (List Key × PyData)} (hp : (p, MO.dT kvs) ∈ M) : ∃ ks, H p = some (.dT ks) ∧ DD K (hid (L ++ ad M) H) ks kvs := o.ob _ hp
/-- d.get(k, x) -/
theorem ev_dget2 {k : Key} {kvs : List (Key × PyData)} (hd : Ev K td ρ M (.loc (.ref p)) M) (hp : (p, MO.dK kvs) ∈ M) (hk : Ev K ty ρ M (.dat (keyD k)) M) (hx : Ev K tx ρ M (.dat d) M) : Ev K (tDGet2 td ty tx) ρ M (.dat ((valD kvs k).getD d)) M := fun F L σ H o Q q =>
  hd F L σ H o _ fun x H1 o1 e1 a1 x1 => by
    have ex : x = .ref p := x1
    subst ex
    obtain ⟨ks, h1, h2⟩ := dK_at o1 hp
    refine ⟨p, rfl, .inl ⟨ks, .inl h1⟩, hk F L σ H1 o1 _ fun y H2 o2 e2 a2 y2 => hx F L σ H2 o2 _ fun z H3 o3 e3 a3 z3 => ?_⟩
    obtain ⟨ks3, h5, h6⟩ := dK_at o3 hp
    have ey := keyD_of (K := K) y2
    subst ey
    refine ⟨_, .k h5, q _ H3 o3 e3 (chain2 rfl (chain2 rfl a1 a2) a3) ?_⟩
    cases e : valD kvs k with
    | none => rw [h6.no e]; exact z3
    | some d' =>
      obtain ⟨v, g1, g2⟩ := h6.yes e
      rw [g1]; exact g2
/-- d[k] = v -/
theorem s_dputK {k : Key} {kvs : List (Key × PyData)} {j : Nat} (hv : Ev K tv ρ M (.dat d) M) (hd : Ev K td ρ M (.loc (.ref p)) M) (hk : Ev K ty ρ M (.dat (keyD k)) M) (hj : M[j]? = some (p, .dK kvs)) (hz : kvs.length < 1000000)
    (k' : ∀ H, Ok K F L σ H ρ (M.set j (p, .dK (putD kvs k d))) → D.nx σ H) (o : Ok K F L σ H ρ M) : sDPut td ty tv D σ H := hv F L σ H o _ fun v H1 o1 e1 a1 v1 => hd F L σ H1 o1 _ fun x H2 o2 e2 a2 x2 => hk F L σ H2 o2 _ fun y H3 o3 e3 a3 y3 => by
  have ex : x = .ref p := x2
  subst ex
  have ey := keyD_of (K := K) y3
  subst ey
  obtain ⟨ks, h1, h2⟩ := dK_at o3 (List.mem_of_getElem? hj)
  refine ⟨p, _, rfl, .k h1 (by rw [h2.len]; exact line_lt hz), k' _ ?_⟩
  refine o3.change hj (same_hid_upd (by simp)) ⟨_, upd_same, ?_⟩ (live_upd o3)
  rw [hid_upd (List.mem_append_right _ (mem_ad hj))]
  exact h2.put k (later e2 a3 (later e1 a2 v1))
theorem s_dputT {k : List Key} {kvs : List (List Key × PyData)} {j : Nat} (hv : Ev K tv ρ M (.dat d) M) (hd : Ev K td ρ M (.loc (.ref p)) M) (hk : Ev K ty ρ M (.dat (tupK k)) M) (hj : M[j]? = some (p, .dT kvs)) (hz : kvs.length < 1000000)
    (k' : ∀ H, Ok K F L σ H ρ (M.set j (p, .dT (putD kvs k d))) → D.nx σ H) (o : Ok K F L σ H ρ M) : sDPut td ty tv D σ H := hv F L σ H o _ fun v H1 o1 e1 a1 v1 => hd F L σ H1 o1 _ fun x H2 o2 e2 a2 x2 => hk F L σ H2 o2 _ fun y H3 o3 e3 a3 y3 => by
  have ex : x = .ref p := x2
  subst ex
  obtain ⟨b, rfl, hb⟩ := tupK_key (K := K) y3
  obtain ⟨ks, h1, h2⟩ := dT_at o3 (List.mem_of_getElem? hj)
  refine ⟨p, _, rfl, .t h1 hb (by rw [h2.len]; exact line_lt hz), k' _ ?_⟩
  refine o3.change hj (same_hid_upd (by simp)) ⟨_, upd_same, ?_⟩ (live_upd o3)
  rw [hid_upd (List.mem_append_right _ (mem_ad hj))]
  exact h2.put k (later e2 a3 (later e1 a2 v1))
theorem ev_dgetT {k : List Key} {kvs : List (List Key × PyData)} (hd : Ev K td ρ M (.loc (.ref p)) M) (hk : Ev K ty ρ M (.dat (tupK k)) M) (hp : (p, MO.dT kvs) ∈ M) (hv : valD kvs k = some d) : Ev K (tDGet td ty) ρ M (.dat d) M := fun F L σ H o Q q =>
  hd F L σ H o _ fun x H1 o1 e1 a1 x1 => hk F L σ H1 o1 _ fun y H2 o2 e2 a2 y2 => by
    have ex : x = .ref p := x1
    subst ex
    obtain ⟨b, rfl, hb⟩ := tupK_key (K := K) y2
    obtain ⟨ks, h1, h2⟩ := dT_at o2 hp
    obtain ⟨v, g1, g2⟩ := h2.yes hv
    exact ⟨p, v, rfl, by rw [← g1]; exact .t h1 hb, q v H2 o2 e2 (chain2 rfl a1 a2) g2⟩
theorem et_dNotInT {k : List Key} {kvs : List (List Key × PyData)} (hk : Ev K ty ρ M (.dat (tupK k)) M) (hd : Ev K td ρ M (.loc (.ref p)) M) (hp : (p, MO.dT kvs) ∈ M) : EvT K (tB (tDNotIn ty td)) ρ M (valD kvs k).isNone M := fun F L σ H o Q q =>
  hk F L σ H o _ fun y H1 o1 e1 a1 y1 => hd F L σ H1 o1 _ fun x H2 o2 e2 a2 x2 => by
    have ex : x = .ref p := x2
    subst ex
    obtain ⟨b, rfl, hb⟩ := tupK_key (K := K) (H := H2) (later (L := L) rfl a2 y1)
    obtain ⟨ks, h1, h2⟩ := dT_at o2 hp
    refine ⟨p, _, rfl, .t h1 hb, _, rfl, ?_⟩
    have e : (!(valV ks k).isSome) = (valD kvs k).isNone := by
      cases e : valD kvs k with
      | none => rw [h2.no e]; rfl
      | some d' =>
        obtain ⟨v, g1, _⟩ := h2.yes e
        rw [g1]; rfl
    rw [e]
    exact q H2 o2 e2 (chain2 rfl a1 a2)
/-- a dict told by a word about it: opened, closed -/
theorem Ok.openP {Φ : List (List Key × PyData) → Prop} {j : Nat} (o : Ok K F L σ H ρ M) (hj : M[j]? = some (p, .dP Φ)) : ∃ kvs, Φ kvs ∧ Ok K F L σ H ρ (M.set j (p, .dT kvs)) := by
  obtain ⟨ks, kvs, h0, h1, h2⟩ := o.ob _ (List.mem_of_getElem? hj)
  exact ⟨kvs, h0, o.change hj (hid_le _ _) ⟨ks, h1, h2⟩ fun a ha _ => o.lv a ha⟩
theorem Ok.closeP {Φ : List (List Key × PyData) → Prop} {j : Nat} {kvs : List (List Key × PyData)} (o : Ok K F L σ H ρ M) (hj : M[j]? = some (p, .dT kvs)) (hp : Φ kvs) : Ok K F L σ H ρ (M.set j (p, .dP Φ)) := by
  obtain ⟨ks, h1, h2⟩ := o.ob _ (List.mem_of_getElem? hj)
  exact o.change hj (hid_le _ _) ⟨ks, kvs, hp, h1, h2⟩ fun a ha _ => o.lv a ha
theorem evn_listVals {kvs : List (Key × PyData)} (ha : Ev K te ρ M (.loc (.ref p)) M1) (hp : (p, MO.dK kvs) ∈ M1) : EvN K (tListVals te) ρ M (kvs.map (·.2)) M1 := fun F L σ H o Q q => ha F L σ H o _ fun x H1 o1 e1 a1 x1 => by
  have ex : x = .ref p := x1
  subst ex
  obtain ⟨ks, h1, h2⟩ := dK_at o1 hp
  refine ⟨p, ks, rfl, h1, fun q' hq => q q' _ _ (back_none o o1 e1 a1 hq) (o1.lay hq) e1 (a1.trans (same_new hq)) upd_same (DpAll.mono (same_lay hq) ?_)⟩
  rw [← e1]; exact h2.vals
/-! ### objects forgotten -/
theorem Ok.forget (o : Ok K F L σ H ρ (M ++ M1)) : Ok K F L σ H ρ M := by
  have ea : ad (M ++ M1) = ad M ++ ad M1 := List.map_append ..
  have sub : ∀ G : Hp, Same (hid (L ++ ad (M ++ M1)) G) (hid (L ++ ad M) G) := fun G => hid_sub fun a ha => by
    rw [ea]
    rcases List.mem_append.mp ha with z | z
    · exact List.mem_append_left _ z
    · exact List.mem_append_right _ (List.mem_append_left _ z)
  exact ⟨Paired.mapP o.sl fun _ _ q => q.mono (sub H), fun x hx => (o.ob x (List.mem_append_left _ hx)).mono (sub H) rfl, by have := o.nd; rw [ea] at this; exact (List.nodup_append.mp this).1, o.fr, fun q hq => o.fn q (by rw [ea]; exact List.mem_append_left _ hq), o.lv⟩
/-! ### calls that look at, or change, told objects -/
/-- R: the objects ahead, the arguments, the answer, the objects behind -/
def spMs (K : PySem.W.Frag) (R : Ms → List Sl → PyData → Ms → Prop) : Sp := fun vs H Q _ => ∃ L M ss r M', (∀ a ∈ L, H a ≠ none) ∧ (∀ a ∈ ad M, a ∈ L) ∧ (ad M).Nodup ∧ Paired (SlOk K (hid L H)) vs ss ∧ (∀ x ∈ M, MOk K (hid L H) H x.1 x.2) ∧ R M ss r M' ∧ ad M' = ad M ∧
  ∀ v H1, Same (hid (ad M) H) H1 → (∀ x ∈ M', MOk K (hid L H1) H1 x.1 x.2) → Dp K (hid L H1) v r → Q v H1
/-- the objects M0 of M become M0' -/
structure Sw (M0 M0' M M' : Ms) : Prop where
  sub : M0.Sublist M
  ea : Wm.ad M' = Wm.ad M
  mem : ∀ x ∈ M', x ∈ M0' ∨ (x ∈ M ∧ x.1 ∉ Wm.ad M0)
theorem Sw.same {M0 M : Ms} (h : M0.Sublist M) (nd : (Wm.ad M).Nodup) : Sw M0 M0 M M := ⟨h, rfl, fun x hx => by
  by_cases e : x.1 ∈ Wm.ad M0
  · left
    obtain ⟨y, hy, ey⟩ := List.mem_map.mp e
    have hy' := h.subset hy
    obtain ⟨i, hi⟩ := List.mem_iff_getElem?.mp hx
    obtain ⟨j, hj⟩ := List.mem_iff_getElem?.mp hy'
    have h1 : (ad M)[i]? = some x.1 := by simp only [ad, List.getElem?_map, hi, Option.map_some]
    have h2 : (ad M)[j]? = some x.1 := by simp only [ad, List.getElem?_map, hj, Option.map_some, ey]
    have e2 := (List.getElem?_inj (List.getElem?_eq_some_iff.mp h1).1 nd).mp (h1.trans h2.symm)
    subst e2
    rw [hi] at hj
    cases hj
    exact hy
  · exact .inr ⟨hx, e⟩⟩
theorem swap_ok (o : Ok K F L σ H1 ρ M1) (w : (ad M1).Nodup → Sw M0 Mn M1 M2) (s2 : Same (hid (ad M0) H1) H') (hm : ∀ x ∈ Mn, MOk K (hid (L ++ ad M1) H') H' x.1 x.2) (hn : ad Mn = ad M0) : Ok K F L σ H' ρ M2 ∧ Same (hid (ad M1) H1) H' := by
  have w := w o.nd
  have sub : ∀ a, a ∈ ad M0 → a ∈ ad M1 := fun a ha => by
    obtain ⟨y, hy, e⟩ := List.mem_map.mp ha
    exact List.mem_map.mpr ⟨y, w.sub.subset hy, e⟩
  have s3 : Same (hid (ad M1) H1) H' := fun a x e => s2 a x (hid_sub sub _ _ e)
  have vis : Same (hid (L ++ ad M1) H1) (hid (L ++ ad M1) H') := same_visL s3
  refine ⟨⟨?_, fun x hx => ?_, by rw [w.ea]; exact o.nd, fun a x e => ?_, fun a ha => o.fn a (by rw [w.ea] at ha; exact ha), fun a ha => ?_⟩, s3⟩
  · rw [w.ea]; exact Paired.mapP o.sl fun _ _ q => q.mono vis
  · rw [w.ea]
    rcases w.mem x hx with z | ⟨z, z2⟩
    · exact hm x z
    · obtain ⟨y, e⟩ := (o.ob x z).there
      exact (o.ob x z).mono vis ((s2 _ _ (hid_of z2 e)).trans e.symm)
  · refine s2 a x (hid_of (fun z => ?_) (o.fr a x e))
    rw [o.fn a (sub a z)] at e; cases e
  · by_cases e : a ∈ ad M0
    · rw [← hn] at e
      obtain ⟨y, hy, e2⟩ := List.mem_map.mp e
      obtain ⟨z, ez⟩ := (hm y hy).there
      rw [← e2, ez]; exact fun z => nomatch z
    · intro z
      cases e3 : H1 a with
      | none => exact o.lv a ha e3
      | some y => rw [s2 a y (hid_of e e3)] at z; cases z
theorem ev_callMs {R : Ms → List Sl → PyData → Ms → Prop} {E : XK} {r : PyData} (ha : EvA K tr ρ M ss M1) (M0 Mn : Ms) (hn : ad Mn = ad M0) (w : (ad M1).Nodup → Sw M0 Mn M1 M2) (hR : R M0 ss r Mn) : Ev K (tCall (spMs K R) [] E tr) ρ M (.dat r) M2 := fun F L σ H o Q q => ha F L σ H o _ fun vs H1 o1 e1 a1 x1 => by
  have w' := w o1.nd
  have sub : ∀ a, a ∈ ad M0 → a ∈ ad M1 := fun a ha => by
    obtain ⟨y, hy, e⟩ := List.mem_map.mp ha
    exact List.mem_map.mpr ⟨y, w'.sub.subset hy, e⟩
  refine ⟨L ++ ad M1, M0, ss, r, Mn, fun a ha => o1.there ha, fun a ha => List.mem_append_right _ (sub a ha), List.Nodup.sublist (w'.sub.map _) o1.nd, by rw [List.append_nil, e1]; exact x1, fun x hx => o1.ob x (w'.sub.subset hx), hR, hn, fun v H2 s2 hm hv => ?_⟩
  obtain ⟨o2, s3⟩ := swap_ok o1 w s2 hm hn
  exact q v H2 o2 (w'.ea.trans e1) (chain2 e1 a1 s3) (by rw [← e1]; exact hv)
/-- o.m(..) -/
theorem ev_methMs {R : Ms → List Sl → PyData → Ms → Prop} {E : XK} {r : PyData} (ho : Ev K ta ρ M (.loc (.ref p)) M') (hp : (p, MO.ins C fs) ∈ M') (hl : fs.lookup m = none) (ha : EvA K tr ρ M' ss M1) (M0 Mn : Ms) (hn : ad Mn = ad M0) (w : (ad M1).Nodup → Sw M0 Mn M1 M2) (hR : R M0 (.loc (.ref p) :: ss) r Mn) : Ev K (tMeth C m (spMs K R) [] E ta tr) ρ M (.dat r) M2 := fun F L σ H o Q q => ho F L σ H o _ fun x H0 o0 e0 a0 x0 => by
  have ex : x = .ref p := x0
  subst ex
  obtain ⟨dx, gs, h1, h2⟩ := o0.ob _ hp
  refine ⟨p, dx, gs, rfl, h1, FF.none h2 hl, ha F L σ H0 o0 _ fun vs H1 o1 e1 a1 x1 => ?_⟩
  have w' := w o1.nd
  have sub : ∀ a, a ∈ ad M0 → a ∈ ad M1 := fun a ha => by
    obtain ⟨y, hy, e⟩ := List.mem_map.mp ha
    exact List.mem_map.mpr ⟨y, w'.sub.subset hy, e⟩
  refine ⟨L ++ ad M1, M0, _, r, Mn, fun a ha => o1.there ha, fun a ha => List.mem_append_right _ (sub a ha), List.Nodup.sublist (w'.sub.map _) o1.nd, by rw [List.append_nil, e1]; exact .cons rfl x1, fun x hx => o1.ob x (w'.sub.subset hx), hR, hn, fun v H2 s2 hm hv => ?_⟩
  obtain ⟨o2, s3⟩ := swap_ok o1 w s2 hm hn
  exact q v H2 o2 (w'.ea.trans (e1.trans e0)) (chain2 (e1.trans e0) (chain2 e0 a0 a1) s3) (by rw [← e0, ← e1]; exact hv)
/-! ### a new instance -/
/-- __init__: the instance's fields, one more new object -/
def spI (K : PySem.W.Frag) (C : Addr) (R : List PyData → (Addr → List (Str × Sl)) → MO → Prop) : Sp := fun vs H Q _ => ∃ L p us dx ds fO qO, vs = .ref p :: us ∧ (∀ a ∈ L, H a ≠ none) ∧ p ∈ L ∧ H p = some (.ins C dx []) ∧ DpAll K (hid L H) us ds ∧ R ds fO qO ∧
  ∀ q H1, H q = none → Same (hid [p] H) H1 → MOk K (hid (q :: L) H1) H1 p (.ins C (fO q)) → MOk K (hid (q :: L) H1) H1 q qO → Q .non H1
theorem make_ok {R : List PyData → (Addr → List (Str × Sl)) → MO → Prop} {E : XK} {fO : Addr → List (Str × Sl)} {qO : MO} (ha : EvA K tr ρ M (ds.map Sl.dat) M1) (hR : R ds fO qO) (o : Ok K F L σ H ρ M) {Q : VK}
    (k : ∀ p q H1, hid (ad M) H p = none → hid (ad M) H q = none → Ok K F L σ H1 ρ (M1 ++ [(p, .ins C (fO q)), (q, qO)]) → ad M1 = ad M → Same (hid (ad M) H) H1 → Q (.ref p) H1) : tMake C (spI K C R) [] E tr σ H Q := ha F L σ H o _ fun vs H1 o1 e1 a1 x1 => fun p dx hp hdx ne => by
  have hFp : F p = none := o1.fr.free hp
  have s0 : Same H1 (upd (upd H1 dx (.own p)) p (.ins C dx [])) := fun b y e => by rw [upd_ne (ne_of_none e hp), upd_ne (ne_of_none e hdx)]; exact e
  have npx : p ∉ L ++ ad M1 := o1.fresh hp
  have vis0 : Same (hid (L ++ ad M1) H1) (hid (p :: (L ++ ad M1)) (upd (upd H1 dx (.own p)) p (.ins C dx []))) := fun b y e => by
    obtain ⟨n, e2⟩ := hid_some e
    refine hid_of (fun z => ?_) (s0 _ _ e2)
    rcases List.mem_cons.mp z with z | z
    · rw [z, hp] at e2; cases e2
    · exact n z
  refine ⟨p :: (L ++ ad M1), p, vs, dx, ds, fO, qO, by rw [List.append_nil], fun a ha => ?_, List.mem_cons_self, upd_same, ?_, hR, fun q H2 hq s2 h1 h2 => ⟨rfl, ?_⟩⟩
  · rcases List.mem_cons.mp ha with z | z
    · rw [z, upd_same]; exact fun z => nomatch z
    · intro e
      cases e3 : H1 a with
      | none => exact o1.there z e3
      | some y => rw [s0 a y e3] at e; cases e
  · refine DpAll.mono vis0 (dpAll_of ?_)
    rw [e1]; exact x1
  have hq1 : H1 q = none := s0.free hq
  have npq : q ≠ p := fun z => by rw [z, upd_same] at hq; cases hq
  have s12 : Same H1 H2 := fun b y e => s2 b y (hid_of (by
    intro z
    have e3 : b = p := by simpa using z
    rw [e3, hp] at e; cases e) (s0 b y e))
  have hFq : F q = none := o1.fr.free hq1
  have nqx : q ∉ L ++ ad M1 := o1.fresh hq1
  have per : ∀ G : Hp, Same (hid (q :: p :: (L ++ ad M1)) G) (hid (L ++ ad (M1 ++ [(p, .ins C (fO q)), (q, qO)])) G) := fun G => hid_sub fun a ha => by
    simp only [ad, List.map_append, List.map_cons, List.map_nil, List.mem_append, List.mem_cons, List.not_mem_nil, or_false] at ha ⊢
    rcases ha with z | z | z | z
    · exact .inr (.inr (.inl z))
    · exact .inr (.inr (.inr z))
    · exact .inr (.inl z)
    · exact .inl z
  have vis : Same (hid (L ++ ad M1) H1) (hid (q :: p :: (L ++ ad M1)) H2) := fun b y e => by
    obtain ⟨n, e2⟩ := hid_some e
    refine hid_of (fun z => ?_) (s12 _ _ e2)
    rcases List.mem_cons.mp z with z | z
    · rw [z, hq1] at e2; cases e2
    · rcases List.mem_cons.mp z with z | z
      · rw [z, hp] at e2; cases e2
      · exact n z
  have vis2 := fun b y e => per H2 b y (vis b y e)
  refine k p q H2 (a1.free hp) (a1.free hq1) ⟨Paired.mapP o1.sl fun _ _ r => r.mono vis2, fun x hx => ?_, ?_, o1.fr.trans s12, fun a ha => ?_, (o1.mono s12).lv⟩ e1 (a1.trans s12)
  · rcases List.mem_append.mp hx with z | z
    · obtain ⟨y, e⟩ := (o1.ob x z).there
      exact (o1.ob x z).mono vis2 ((s12 _ _ e).trans e.symm)
    · simp only [List.mem_cons, List.not_mem_nil, or_false] at z
      rcases z with z | z
      · rw [z]; exact h1.mono (per H2) rfl
      · rw [z]; exact h2.mono (per H2) rfl
  · simp only [ad, List.map_append, List.map_cons, List.map_nil]
    refine List.nodup_append.mpr ⟨o1.nd, ?_, fun a ha b hb e => ?_⟩
    · simp only [List.nodup_cons, List.mem_singleton, List.not_mem_nil, not_false_iff, List.nodup_nil, and_true]
      exact fun z => npq z.symm
    · simp only [List.mem_cons, List.not_mem_nil, or_false] at hb
      subst e
      rcases hb with z | z
      · exact npx (List.mem_append_right _ (z ▸ ha))
      · exact nqx (List.mem_append_right _ (z ▸ ha))
  · simp only [ad, List.map_append, List.map_cons, List.map_nil, List.mem_append, List.mem_cons, List.not_mem_nil, or_false] at ha
    rcases ha with z | z | z
    · exact o1.fn a z
    · rw [z]; exact hFp
    · rw [z]; exact hFq
/-- x = C(..) -/
theorem s_asgMake {i : Nat} {R : List PyData → (Addr → List (Str × Sl)) → MO → Prop} {E : XK} {fO : Addr → List (Str × Sl)} {qO : MO} (ha : EvA K tr ρ M (ds.map Sl.dat) M1) (hR : R ds fO qO)
    (k : ∀ p q σ H, Ok K F L σ H (ρ.set i (.loc (.ref p))) (M1 ++ [(p, .ins C (fO q)), (q, qO)]) → D.nx σ H) (o : Ok K F L σ H ρ M) : tAsg (tMake C (spI K C R) [] E tr) (gName i) D σ H :=
  make_ok ha hR o fun p q H1 _ _ o1 e1 a1 => k p q _ _ (o1.set rfl)
/-- C(..).m(..) -/
theorem ev_makeMeth {R : List PyData → (Addr → List (Str × Sl)) → MO → Prop} {E E' : XK} {fO : Addr → List (Str × Sl)} {qO qO' : MO} {R' : Ms → List Sl → PyData → Ms → Prop} {tr' : TA} {r : PyData} (ha : EvA K tr ρ M (ds.map Sl.dat) M) (hR : R ds fO qO) (hl : ∀ q, (fO q).lookup m = none)
    (ha' : ∀ p q, EvA K tr' ρ (M ++ [(p, .ins C (fO q)), (q, qO)]) ss (M ++ [(p, .ins C (fO q)), (q, qO)])) (hR' : ∀ p q, R' [(p, .ins C (fO q)), (q, qO)] (.loc (.ref p) :: ss) r [(p, .ins C (fO q)), (q, qO')]) :
    Ev K (tMeth C m (spMs K R') [] E (tMake C (spI K C R) [] E' tr) tr') ρ M (.dat r) M := fun F L σ H o Q q => make_ok ha hR o fun p q' H1 hFp hFq o1 e1 a1 => by
  obtain ⟨dx, gs, h1, h2⟩ := o1.ob (p, .ins C (fO q')) (List.mem_append_right _ List.mem_cons_self)
  refine ⟨p, dx, gs, rfl, h1, FF.none h2 (hl q'), ha' p q' F L σ H1 o1 _ fun vs H2 o2 e2 a2 x2 => ?_⟩
  refine ⟨L ++ ad (M ++ [(p, .ins C (fO q')), (q', qO)]), [(p, .ins C (fO q')), (q', qO)], _, r, [(p, .ins C (fO q')), (q', qO')], fun a ha => o2.there ha, fun a ha => ?_, ?_, by rw [List.append_nil]; exact .cons rfl x2, fun x hx => o2.ob x (List.mem_append_right _ hx), hR' p q', rfl, fun v H3 s3 hm hv => ?_⟩
  · refine List.mem_append_right _ ?_
    rw [show ad (M ++ [(p, .ins C (fO q')), (q', qO)]) = ad M ++ ad [(p, .ins C (fO q')), (q', qO)] from List.map_append ..]
    exact List.mem_append_right _ ha
  · have := o2.nd
    rw [show ad (M ++ [(p, .ins C (fO q')), (q', qO)]) = ad M ++ ad [(p, .ins C (fO q')), (q', qO)] from List.map_append ..] at this
    exact (List.nodup_append.mp this).2.1
  · have eM : ad (M ++ [(p, .ins C (fO q')), (q', qO)]) = ad M ++ [p, q'] := List.map_append ..
    have nd := o2.nd
    rw [eM] at nd
    have dj := (List.nodup_append.mp nd).2.2
    obtain ⟨o3, s4⟩ := swap_ok (M2 := M ++ [(p, .ins C (fO q')), (q', qO')]) o2 (fun _ => ⟨List.sublist_append_right .., by rw [eM]; exact List.map_append .., fun x hx => by
      rcases List.mem_append.mp hx with z | z
      · exact .inr ⟨List.mem_append_left _ z, fun z2 => dj x.1 (List.mem_map.mpr ⟨x, z, rfl⟩) x.1 z2 rfl⟩
      · exact .inl z⟩) s3 hm rfl
    have hv' : Dp K (hid (L ++ ad M) H3) v r := Dp.mono (hid_sub fun a ha => by
      rw [eM]
      rcases List.mem_append.mp ha with z | z
      · exact List.mem_append_left _ z
      · exact List.mem_append_right _ (List.mem_append_left _ z)) hv
    refine q v H3 o3.forget rfl (fun a y e => ?_) hv'
    have e5 := a1 a y e
    refine s4 a y (hid_of (fun z => ?_) (a2 a y (hid_of (fun z => ?_) e5)))
    all_goals
      rw [eM] at z
      obtain ⟨n, e6⟩ := hid_some e
      rcases List.mem_append.mp z with z | z
      · exact n z
      · simp only [List.mem_cons, List.not_mem_nil, or_false] at z
        rcases z with z | z
        · rw [z] at e; first | (rw [hFp] at e; cases e) | skip
        · rw [z] at e; first | (rw [hFq] at e; cases e) | skip
/-- a, b, c = x, y, z -/
theorem s_par3 {i j l : Nat} {s3 : Sl} (h : EvA K tr ρ M [s1, s2, s3] M1) (k : ∀ σ H, Ok K F L σ H (((ρ.set i s1).set j s2).set l s3) M1 → D.nx σ H) (o : Ok K F L σ H ρ M) : tPar3 i j l tr D σ H := h F L σ H o _ fun vs H1 o1 e1 a1 x1 => by
  cases x1 with
  | cons h1 x1 =>
    obtain ⟨v, w, rfl, h2, h3⟩ := two_of x1
    exact ⟨_, v, w, rfl, k _ _ (Ok.set (Ok.set (Ok.set o1 (by rw [e1]; exact h1)) (by rw [e1]; exact h2)) (by rw [e1]; exact h3))⟩
/-! ### ends -/
theorem s_retMs {r : PyData} (h : Ev K te ρ M (.dat r) M1) (hs : ∀ x ∈ Mn, x ∈ M1) (k : ∀ v H1, Same F H1 → (∀ x ∈ Mn, MOk K (hid L H1) H1 x.1 x.2) → Dp K (hid L H1) v r → D.rt v H1) (o : Ok K F L σ H ρ M) : tRet te D σ H :=
  s_ret h (fun v H1 o1 x1 => k v H1 o1.fr (fun x hx => (o1.ob x (hs x hx)).mono (hid_sub fun _ z => List.mem_append_left _ z) rfl) (Dp.mono (hid_sub fun _ z => List.mem_append_left _ z) x1)) o
theorem Ok.mobs (o : Ok K F L σ H ρ M) (hs : ∀ x ∈ Mn, x ∈ M) : ∀ x ∈ Mn, MOk K (hid L H) H x.1 x.2 := fun x hx => (o.ob x (hs x hx)).mono (hid_sub fun _ z => List.mem_append_left _ z) rfl
end
section
variable {P : Program} {w : World} {K : PySem.W.Frag} {mg : Str → Option Value} {base : Heap} {x qual : Str} {st : Stmt} {f C : Addr} {fd : FuncData} {N ps : List Str} {k : Nat}
theorem okMs {R : Ms → List Sl → PyData → Ms → Prop} (Fn : Fun K x qual st f fd) (S : FnScope N ps (defScope st)) (hl : ∀ M ss r M', R M ss r M' → ss.length = ps.length)
    (hb : ∀ cdv A outer s H E, Room k (A.deeper (envOfC qual (defScope st) s.heap.objs.size f cdv)) → ∃ t, PSs (cxOf CX0 P w K mg base N qual (defScope st) f cdv A outer s H E).nox (defBody st) t ∧
      ∀ M ss r M', R M ss r M' → ∀ (F : Hp) L σ H (D : Ends), (∀ v H', Same F H' → (∀ x ∈ M', MOk K (hid L H') H' x.1 x.2) → Dp K (hid L H') v r → D.rt v H') → (∀ σ H', Same F H' → (∀ x ∈ M', MOk K (hid L H') H' x.1 x.2) → r = .none → D.nx σ H') → (∀ a ∈ ad M, a ∈ L) → Ok K F L σ H (st0 N ss) M → t D σ H) :
    FnOk P w K mg base CX0 (k + 1) f fd ps (spMs K R) := by
  refine Fn.ok S (fun vs H Q E h => ?_) (fun cdv A outer s H vs Q E hr h => ?_)
  · obtain ⟨L, M, ss, r, M', lv, hL, nd, hp, hm, hR, _⟩ := h
    rw [paired_len hp]; exact hl _ _ _ _ hR
  · obtain ⟨L, M, ss, r, M', lv, hL, nd, hp, hm, hR, ea, q⟩ := h
    obtain ⟨t, h1, h2⟩ := hb cdv A outer s H E hr
    have sub : ∀ G : Hp, Same (hid L G) (hid (L ++ ad M) G) := fun G => hid_sub fun a ha => by
      rcases List.mem_append.mp ha with z | z
      · exact z
      · exact hL a z
    refine ⟨t, h1, h2 M ss r M' hR (hid (ad M) H) L _ H _ (fun v H' s2 g1 g2 => q v H' s2 g1 g2) (fun σ H' s2 g1 e => ?_) hL (ok_start (Paired.mapP hp fun _ _ z => z.mono (sub H)) lv (fun y hy => (hm y hy).mono (sub H) rfl) nd (hid_le _ _) fun a ha => hid_in ha)⟩
    subst e
    exact q .non H' s2 g1 .non
theorem okI {R : List PyData → (Addr → List (Str × Sl)) → MO → Prop} (Fn : Fun K x qual st f fd) (S : FnScope N ps (defScope st)) (hl : ∀ ds fO qO, R ds fO qO → ds.length + 1 = ps.length)
    (hb : ∀ cdv A outer s H E, Room k (A.deeper (envOfC qual (defScope st) s.heap.objs.size f cdv)) → ∃ t, PSs (cxOf CX0 P w K mg base N qual (defScope st) f cdv A outer s H E).nox (defBody st) t ∧
      ∀ ds fO qO, R ds fO qO → ∀ (F : Hp) L p σ H (D : Ends), (∀ q σ H', Ok K F L σ H' (st0 N (.loc (.ref p) :: ds.map Sl.dat)) [(p, .ins C (fO q)), (q, qO)] → D.nx σ H') → p ∈ L → Ok K F L σ H (st0 N (.loc (.ref p) :: ds.map Sl.dat)) [(p, .ins C [])] → t D σ H) :
    FnOk P w K mg base CX0 (k + 1) f fd ps (spI K C R) := by
  refine Fn.ok S (fun vs H Q E h => ?_) (fun cdv A outer s H vs Q E hr h => ?_)
  · obtain ⟨L, p, us, dx, ds, fO, qO, rfl, lv, hp, hm, hd, hR, _⟩ := h
    rw [List.length_cons, hd.length]; exact hl _ _ _ hR
  · obtain ⟨L, p, us, dx, ds, fO, qO, rfl, lv, hp, hm, hd, hR, q⟩ := h
    obtain ⟨t, h1, h2⟩ := hb cdv A outer s H E hr
    have sub : ∀ G : Hp, Same (hid L G) (hid (L ++ ad [(p, MO.ins C [])]) G) := fun G => hid_sub fun a ha => by
      rcases List.mem_append.mp ha with z | z
      · exact z
      · have e : a = p := by simpa [ad] using z
        rw [e]; exact hp
    refine ⟨t, h1, h2 ds fO qO hR (hid [p] H) L p _ H _ (fun q' σ H' o => ?_) hp (ok_start (.cons rfl (of_dpAll (hd.mono (sub H)))) lv (fun x hx => ?_) (by simp [ad]) (hid_le _ _) (fun a ha => ?_))⟩
    · have npq : q' ≠ p := fun z => by
        have := o.nd
        rw [z] at this
        simp [ad] at this
      have hF := o.fn q' (by simp [ad])
      rw [hid_out (by simpa using npq)] at hF
      have sb : Same (hid (L ++ ad [(p, .ins C (fO q')), (q', qO)]) H') (hid (q' :: L) H') := hid_sub fun a ha => by
        simp only [ad, List.map_cons, List.map_nil, List.mem_append, List.mem_cons, List.not_mem_nil, or_false] at ha ⊢
        rcases ha with z | z
        · exact .inr (.inr z)
        · exact .inl z
      exact q q' H' hF o.fr ((o.ob (p, _) (by simp)).mono sb rfl) ((o.ob (q', _) (by simp)).mono sb rfl)
    · have e : x = (p, .ins C []) := by simpa using hx
      subst e
      exact ⟨dx, [], hm, .nil⟩
    · exact hid_in (by simpa [ad] using ha)
end
section
variable {K : PySem.W.Frag} {F F' H H' H0 H1 : Hp} {L : List Addr} {σ σ' : L2.St} {ρ ρ' : List Sl} {M M' M0 M1 M2 M3 Mn : Ms}
variable {te ta tb tc ti td ty tx tv : TE} {tt : TT} {tr : TA} {s s1 s2 : Sl} {ss : List Sl} {d d1 d2 d3 : PyData} {ds es : List PyData} {D : Ends} {tu tw tz : TS} {g : TG} {p q : Addr} {C : Addr} {fs : List (Str × Sl)} {f m : Str}
theorem q_fld {j : Nat} (hv : Ev K tv ρ M s M) (ha : Ev K ta ρ M (.loc (.ref p)) M) (hj : M[j]? = some (p, .ins C fs)) (hc : Cls K C) (hn : NoAttr K C f) (hl : fs.length < 1000)
    (k : ∀ H, Ok K F L σ H ρ (M.set j (p, .ins C (putS f s fs))) → tz D σ H) (o : Ok K F L σ H ρ M) : tSeq (sFld K ta tv f) tz D σ H := s_fld (D := { D with nx := tz D }) hv ha hj hc hn hl k o
theorem q_asgNw {i : Nat} {x : MO} (hv : ∀ F L σ H, Ok K F L σ H ρ M → ∀ Q : VK, (∀ q H1, F q = none → q ∉ ad M → Ok K F L σ H1 ρ (M ++ [(q, x)]) → Same (hid (ad M) H) H1 → Q (.ref q) H1) → te σ H Q)
    (k : ∀ q σ H, Ok K F L σ H (ρ.set i (.loc (.ref q))) (M ++ [(q, x)]) → tz D σ H) (o : Ok K F L σ H ρ M) : tSeq (tAsg te (gName i)) tz D σ H := s_asgNw (D := { D with nx := tz D }) hv k o
theorem q_asgMake {i : Nat} {R : List PyData → (Addr → List (Str × Sl)) → MO → Prop} {E : XK} {fO : Addr → List (Str × Sl)} {qO : MO} (ha : EvA K tr ρ M (ds.map Sl.dat) M1) (hR : R ds fO qO)
    (k : ∀ p q σ H, Ok K F L σ H (ρ.set i (.loc (.ref p))) (M1 ++ [(p, .ins C (fO q)), (q, qO)]) → tz D σ H) (o : Ok K F L σ H ρ M) : tSeq (tAsg (tMake C (spI K C R) [] E tr) (gName i)) tz D σ H := s_asgMake (D := { D with nx := tz D }) ha hR k o
theorem q_dputT {k : List Key} {kvs : List (List Key × PyData)} {j : Nat} (hv : Ev K tv ρ M (.dat d) M) (hd : Ev K td ρ M (.loc (.ref p)) M) (hk : Ev K ty ρ M (.dat (tupK k)) M) (hj : M[j]? = some (p, .dT kvs)) (hz : kvs.length < 1000000)
    (k' : ∀ H, Ok K F L σ H ρ (M.set j (p, .dT (putD kvs k d))) → tz D σ H) (o : Ok K F L σ H ρ M) : tSeq (sDPut td ty tv) tz D σ H := s_dputT (D := { D with nx := tz D }) hv hd hk hj hz k' o
end
/-- what a method hands its callers, at any level -/
def HasM (P : Program) (w : World) (K : PySem.W.Frag) (mg : Str → Option Value) (base : Heap) (C : Addr) (k : Nat) (m : Str) (ps : List Str) (sp : Sp) : Prop := ∃ (f : Addr) (fd : FuncData), FnOk P w K mg base CX0 k f fd ps sp ∧ Meth K C m f ∧ Binds K fd ps []
theorem HasM.mono {P : Program} {w : World} {K : PySem.W.Frag} {mg : Str → Option Value} {base : Heap} {C : Addr} {j k : Nat} {m : Str} {ps : List Str} {sp : Sp} (h : HasM P w K mg base C j m ps sp) (e : j ≤ k) : HasM P w K mg base C k m ps sp := by
  obtain ⟨f, fd, h1, h2, h3⟩ := h
  exact ⟨f, fd, h1.mono e, h2, h3⟩
def HasI (P : Program) (w : World) (K : PySem.W.Frag) (mg : Str → Option Value) (base : Heap) (C : Addr) (k : Nat) (ps : List Str) (sp : Sp) : Prop := ∃ (f : Addr) (fd : FuncData), FnOk P w K mg base CX0 k f fd ps sp ∧ Mk K C f ∧ Binds K fd ps []
theorem Has.mono {P : Program} {w : World} {K : PySem.W.Frag} {mg : Str → Option Value} {base : Heap} {j k : Nat} {x : Str} {ps : List Str} {sp : Sp} (h : Has P w K mg base j x ps sp) (e : j ≤ k) : Has P w K mg base k x ps sp := by
  obtain ⟨f, fd, h1, h2, h3, h4⟩ := h
  exact ⟨f, fd, h1.mono e, h2, h3, h4⟩
def RawM (K : PySem.W.Frag) (C : Addr) (x qual : Str) (st : Stmt) : Prop := ∃ f fd, Fun K x qual st f fd ∧ Meth K C x f
def RawI (K : PySem.W.Frag) (C : Addr) (qual : Str) (st : Stmt) : Prop := ∃ f fd, Fun K "__init__" qual st f fd ∧ Mk K C f
end Wm

/-! min of a list of pairs of ints; a comprehension over a dict's values. -/
namespace Wm
open PySem L2 PySem.Spec PyProof.Rows
/-! ### min of data -/
def rMinD (K : PySem.W.Frag) : List V → Hp → VK → Prop := fun vs H Q => ∃ (a : Addr) (ys : List V) (d : PyData) (ds : List PyData), vs = [.ref a] ∧ SqL K H a ys ∧ L2.DpAll K H ys (d :: ds) ∧ PySem.W.AlikeAll (d :: ds) ∧ PyData.depthAll (d :: ds) ≤ 30 ∧
  ∀ j v, ys[j]? = some v → (d :: ds).getD j .none = PySem.W.minD d ds → Q v H
theorem vals_get : ∀ {xs : List V} {us : List Value} {j : Nat} {u : Value}, Vals xs us → us[j]? = some u → ∃ x, xs[j]? = some x ∧ RelV x u
  | _, _, _, _, .nil, h => by simp at h
  | _, _, 0, _, .cons r t, h => by simp at h; subst h; exact ⟨_, rfl, r⟩
  | _, _, j + 1, u, .cons r t, h => by
    obtain ⟨x, h1, h2⟩ := vals_get (j := j) (u := u) t (by simpa using h)
    exact ⟨x, by simpa using h1, h2⟩
theorem cr_minD {X : Cx} (hc : X.calm = true) (hu : X.A.units + 64 < cLine) : CallR X (.builtin "min") (rMinD X.K) := by
  intro pins s σ H vs us Q I r h
  obtain ⟨a, ys, d, ds, rfl, hs, hd, ha, hdp, q⟩ := h
  obtain ⟨its, rv, hl, _⟩ := I.list hs
  rw [Vals.ref1 r]
  obtain ⟨as, hr⟩ := Dp.readsAll I (d :: ds) ys its hd rv
  have hr' : ReadsAll s.heap its.toArray.toList (d :: ds) as := by simpa using hr
  have hn : its.toArray.size = ds.length + 1 := PySem.W.readsAll_len hr'
  refine PySem.call_min_walkH (PySem.W.iter_listW (A := X.A.in1) (I.ok.hd hc) hl.isList fun s₂ e W st hfp hw hk => ?_)
  refine ⟨_, _, _, _, _, _, _, s.heap, _, rfl, W, st, hfp, by omega, hw, hk, PySem.W.cmpIn_lt (A := X.A.in1) hr' ha (by show X.A.units + 1 + _ < _; omega), fun v s' hP m => ?_⟩
  obtain ⟨h', tk, rfl, hk'⟩ := PySem.W.moved_old e rfl m
  have e1 : its.toArray.size - 1 = ds.length := by omega
  have e2 := (PySem.W.argBest_fold PySem.W.dataLt PyData.none d ds ds.length (Nat.le_refl _)).2
  rw [List.take_length] at e2
  rw [e1] at hP
  obtain ⟨x, hx, rx⟩ := vals_get rv (j := _) (u := v) (by rw [List.getElem?_toArray] at hP; exact hP)
  exact ⟨x, H, I.kept hk', rx, q _ x hx (by unfold PySem.W.minD; exact e2)⟩
section
variable {X : Cx} {K' : PySem.W.Frag} (hK : X.K = K')
include hK
theorem w_minD (hc : X.calm = true) (hu : X.A.units + 64 < cLine) : CallR X (.builtin "min") (rMinD K') := hK ▸ cr_minD hc hu
end
/-! ### pairs of ints in order -/
abbrev prD (p : Int × Int) : PyData := .tuple [.int p.1, .int p.2]
def ltP (p q : Int × Int) : Bool := decide (p.1 < q.1) || (decide (p.1 = q.1) && decide (p.2 < q.2))
theorem dataLt_pr (p q : Int × Int) : PySem.W.dataLt (prD p) (prD q) = ltP p q := by
  rw [PySem.W.dataLt_tuple]
  have al : ∀ a b : Int, PySem.W.alike (.int a) (.int b) = true := fun a b => by simp only [PySem.W.alike]
  have ev : ∀ a b : Int, PyData.eqv (.int a) (.int b) = decide (a = b) := fun a b => by
    simp only [PyData.eqv]
    exact Bool.eq_iff_iff.mpr (by simp)
  unfold ltP
  by_cases e : p.1 = q.1
  · rw [PySem.W.dataLt_all_yes (al _ _) (by rw [ev]; exact decide_eq_true e)]
    by_cases e2 : p.2 = q.2
    · rw [PySem.W.dataLt_all_yes (al _ _) (by rw [ev]; exact decide_eq_true e2), e, e2]
      have : PyProof.Rows.lexLt PyProof.Rows.itemOrd (PySem.W.keyToksAll []) (PySem.W.keyToksAll []) = false := by rfl
      rw [this]
      simp
    · rw [PySem.W.dataLt_all_no (al _ _) (by rw [ev]; exact decide_eq_false e2), PySem.W.dataLt_int, e]
      simp
  · rw [PySem.W.dataLt_all_no (al _ _) (by rw [ev]; exact decide_eq_false e), PySem.W.dataLt_int]
    simp [e]
theorem alike_prs (ps : List (Int × Int)) : PySem.W.AlikeAll (ps.map prD) := ⟨fun x hx y hy => by
  obtain ⟨p, _, rfl⟩ := List.mem_map.mp hx
  obtain ⟨q, _, rfl⟩ := List.mem_map.mp hy
  simp [PySem.W.alike, PySem.W.alikeAll], fun x hx => by
  obtain ⟨p, _, rfl⟩ := List.mem_map.mp hx
  exact fun z => nomatch z⟩
theorem depth_prs (ps : List (Int × Int)) : PyData.depthAll (ps.map prD) ≤ 30 := by
  induction ps with
  | nil => simp [PyData.depthAll]
  | cons p ps ih =>
    rw [List.map_cons]
    simp only [PyData.depthAll, PyData.depth]
    refine Nat.max_le.mpr ⟨?_, ih⟩
    simp [PyData.depth, PyData.depthAll]
def mnP (p : Int × Int) (ps : List (Int × Int)) : Int × Int := ps.foldl (fun a y => if ltP y a = true then y else a) p
theorem minD_prs (p : Int × Int) (ps : List (Int × Int)) : PySem.W.minD (prD p) (ps.map prD) = prD (mnP p ps) := by
  unfold PySem.W.minD mnP
  induction ps generalizing p with
  | nil => rfl
  | cons q ps ih =>
    rw [List.map_cons, List.foldl_cons, List.foldl_cons, dataLt_pr]
    by_cases h : ltP q p = true
    · rw [if_pos h, if_pos h]; exact ih q
    · rw [if_neg h, if_neg h]; exact ih p
theorem mnP_spec : ∀ (ps : List (Int × Int)) (p : Int × Int), mnP p ps ∈ p :: ps ∧ ∀ q ∈ p :: ps, ltP q (mnP p ps) = false
  | [], p => ⟨List.mem_cons_self, fun q hq => by
    rw [List.mem_singleton.mp hq]
    simp [mnP, ltP]⟩
  | q :: ps, p => by
    have tr : ∀ a b c : Int × Int, ltP a b = false → ltP b c = false → ltP a c = false := fun a b c h1 h2 => by
      unfold ltP at *
      simp only [Bool.or_eq_false_iff, Bool.and_eq_false_iff, decide_eq_false_iff_not] at *
      omega
    have as : ∀ a b : Int × Int, ltP a b = true → ltP b a = false := fun a b h1 => by
      unfold ltP at *
      simp only [Bool.or_eq_false_iff, Bool.and_eq_false_iff, decide_eq_false_iff_not, Bool.or_eq_true, Bool.and_eq_true, decide_eq_true_eq] at *
      omega
    show mnP (if ltP q p = true then q else p) ps ∈ _ ∧ ∀ r ∈ _, ltP r (mnP (if ltP q p = true then q else p) ps) = false
    by_cases h : ltP q p = true
    · rw [if_pos h]
      obtain ⟨h1, h2⟩ := mnP_spec ps q
      refine ⟨List.mem_cons_of_mem _ h1, fun r hr => ?_⟩
      rcases List.mem_cons.mp hr with z | z
      · rw [z]; exact tr p q _ (as _ _ h) (h2 q List.mem_cons_self)
      · exact h2 r z
    · rw [if_neg h]
      obtain ⟨h1, h2⟩ := mnP_spec ps p
      refine ⟨?_, fun r hr => ?_⟩
      · rcases List.mem_cons.mp h1 with z | z
        · rw [z]; exact List.mem_cons_self
        · exact List.mem_cons_of_mem _ (List.mem_cons_of_mem _ z)
      · rcases List.mem_cons.mp hr with z | z
        · rw [z]; exact h2 p List.mem_cons_self
        · rcases List.mem_cons.mp z with z | z
          · rw [z]; exact tr q p _ (by simpa using h) (h2 p List.mem_cons_self)
          · exact h2 r (List.mem_cons_of_mem _ z)
theorem mnP_eq {p : Int × Int} {ps : List (Int × Int)} {r : Int × Int} (hr : r ∈ p :: ps) (h : ∀ q ∈ p :: ps, ltP q r = false) : mnP p ps = r := by
  obtain ⟨h1, h2⟩ := mnP_spec ps p
  have a := h _ h1
  have b := h2 r hr
  unfold ltP at a b
  simp only [Bool.or_eq_false_iff, Bool.and_eq_false_iff, decide_eq_false_iff_not] at a b
  exact Prod.ext (by omega) (by omega)
section
variable {K : PySem.W.Frag} {ρ : List Sl} {M M1 : Ms} {tr : TA} {p : Addr}
theorem ev_minP {ps : List (Int × Int)} {r : Int × Int} (ha : EvA K tr ρ M [.loc (.ref p)] M1) (hp : (p, MO.lst (ps.map prD)) ∈ M1) (hr : r ∈ ps) (h : ∀ q ∈ ps, ltP q r = false) : Ev K (tCB (rMinD K) tr) ρ M (.dat (prD r)) M1 := ev_cb ha fun F L σ H xs o hw Q q => by
  obtain ⟨v, rfl, hv⟩ := one_of hw
  have ex : v = .ref p := hv
  subst ex
  obtain ⟨vs, h1, h2⟩ := o.ob _ hp
  cases ps with
  | nil => cases hr
  | cons p0 ps =>
    have can : PyData.canLayAll0 ((p0 :: ps).map prD) = true := by
      clear h2 hr h hp
      generalize p0 :: ps = qs
      induction qs with
      | nil => simp [PyData.canLayAll0]
      | cons a qs ih => rw [List.map_cons]; simp only [PyData.canLayAll0, PyData.canLay0, Bool.and_eq_true]; exact ⟨by simp [PyData.canLayAll0, PyData.canLay0], ih⟩
    refine ⟨p, vs, prD p0, ps.map prD, rfl, SqL.of h1, DpAll.lo (DpAll.mono (hid_le _ _) h2) can, alike_prs (p0 :: ps), depth_prs (p0 :: ps), fun j v hj hm => q v H (Same.refl H) ?_⟩
    obtain ⟨d, hd, hdp⟩ := h2.getV hj
    have e : d = prD r := by
      rw [← List.map_cons (f := prD), List.getD_eq_getElem?_getD, hd, Option.getD_some, minD_prs, mnP_eq hr h] at hm
      exact hm
    rw [← e]; exact hdp
end
/-! ### [e for x in d.values()] -/
theorem evn_lcVals {K : PySem.W.Frag} {ρ : List Sl} {d : Addr} {kvs : List (Key × PyData)} {i : Nat} {g : TG} {te : TE} {js vs : List Nat} {up : Nat → List Sl → List Sl} (v : Nat → PyData) (hv : ρ[i]? = some (.loc (.ref d)))
    (hg : ∀ k, k < kvs.length → EvG K g ((kvs.map (·.2)).getD k .none) js (up k)) (hjs : ∀ j ∈ js, j ∈ vs) (he : ∀ k, k < kvs.length → Ev K te (up k (wp ρ vs)) [] (.dat (v k)) []) (hl : kvs.length ≤ 500000) :
    EvN K (tLockE (tLc (iVals (tVar i)) g tYes te vs)) ρ [(d, .dK kvs)] ((List.range kvs.length).map v) [(d, .dK kvs)] := fun F L σ H o Q q => by
  obtain ⟨ks, h1, h2⟩ := dK_at o List.mem_cons_self
  refine ⟨d, .dK ks, h1, trivial, fun od => ?_⟩
  have hFd : F d = none := o.fn d (by simp [ad])
  have vis : Same (hid (L ++ ad [(d, MO.dK kvs)]) H) (hid ((d :: L) ++ ad []) (upd H d (.frz od (.dK ks)))) := fun a x e => by
    obtain ⟨n, e2⟩ := hid_some e
    have nd : a ≠ d := fun z => n (List.mem_append_right _ (by rw [z]; simp [ad]))
    refine hid_of (fun z => ?_) (by rw [upd_ne nd]; exact e2)
    simp only [ad, List.map_nil, List.append_nil] at z
    rcases List.mem_cons.mp z with z | z
    · exact nd z
    · exact n (List.mem_append_left _ z)
  have o1 : Ok K F (d :: L) σ (upd H d (.frz od (.dK ks))) ρ [] := by
    refine ⟨Paired.mapP o.sl fun _ _ r => r.mono vis, (fun x hx => nomatch hx), (by simp [ad]), fun a x e => ?_, (fun a ha => by simp [ad] at ha), fun a ha => ?_⟩
    · rw [upd_ne (fun z => by rw [z, hFd] at e; cases e)]; exact o.fr a x e
    · by_cases e : a = d
      · rw [e, upd_same]; exact fun z => nomatch z
      · rw [upd_ne e]
        rcases List.mem_cons.mp ha with z | z
        · exact absurd z e
        · exact o.lv a z
  have e0 : given kvs.length (fun _ => true) v = (List.range kvs.length).map v := by
    unfold given
    rw [List.filter_eq_self.mpr (fun _ _ => rfl)]
  refine evn_lc_at (M := []) (n := kvs.length) (item := fun k => (kvs.map (·.2)).getD k .none) (fun _ => []) (fun _ => true) v o1 (fun R r => ?_) hg hjs (fun i _ F L σ H o Q q => q _ o rfl (hid_le _ _)) (fun k hk _ => he k hk) (fun _ _ e => by cases e) hl _ (fun p us H1 hp o2 _ a2 g1 g2 => ?_)
  · obtain ⟨w, hw, hw2⟩ := o1.get hv (fun z => nomatch z)
    have ew : w = .ref d := hw2
    subst ew
    refine ⟨_, hw, d, od, ks, rfl, upd_same, r _ _ o1 rfl (hid_le _ _) fun k G sG => ?_⟩
    have hGd : G d = some (.frz od (.dK ks)) := sG _ _ (hid_of (by simp [ad]) upd_same)
    refine ⟨fun hk => ⟨⟨hGd, by rw [h2.len]; exact hk⟩, fun x G' hy => ?_⟩, fun hk => ⟨hGd, by rw [h2.len]; exact hk⟩⟩
    obtain ⟨rfl, key, hkey⟩ := hy
    refine ⟨Same.refl _, fun Y hY => ?_⟩
    have hx : (ks.map (·.2))[k]? = some x := by rw [List.getElem?_map, hkey]; rfl
    obtain ⟨dd, hd1, hd2⟩ := h2.vals.getV hx
    dsimp only
    rw [List.getD_eq_getElem?_getD, hd1]
    refine Dp.mono (fun a y e => ?_) hd2
    have e3 := vis a y e
    obtain ⟨n, e4⟩ := hid_some e3
    refine hid_of (fun z => ?_) (sG _ _ (hid_of (by simp [ad]) e4))
    rcases (hY a z).1 with q1 | q1
    · exact n (List.mem_append_left _ q1)
    · rw [show ad ([] : Ms) = [] from rfl, hid_nil] at q1
      rw [q1] at e4; cases e4
  · have npd : p ≠ d := fun z => by rw [z, upd_same] at hp; cases hp
    have hp0 : H p = none := by rw [upd_ne npd] at hp; exact hp
    rw [show ad ([] : Ms) = [] from rfl, hid_nil] at a2
    have h1d : H1 d = some (.frz od (.dK ks)) := a2 _ _ upd_same
    refine ⟨h1d, ?_⟩
    have s12 : Same (hid [d] H) (upd H1 d (.dK ks)) := fun a x e => by
      obtain ⟨n, e2⟩ := hid_some e
      have nd : a ≠ d := by simpa using n
      rw [upd_ne nd]; exact a2 _ _ (by rw [upd_ne nd]; exact e2)
    have sub : Same (hid ((p :: (d :: L)) ++ ad []) H1) (hid ((p :: L) ++ ad [(d, MO.dK kvs)]) (upd H1 d (.dK ks))) := fun a x e => by
      obtain ⟨n, e2⟩ := hid_some e
      have nd : a ≠ d := fun z => n (by rw [z]; simp)
      refine hid_of (fun z => ?_) (by rw [upd_ne nd]; exact e2)
      simp only [ad, List.map_cons, List.map_nil, List.append_nil, List.mem_append, List.mem_cons, List.not_mem_nil, or_false] at z n
      rcases z with (z | z) | z
      · exact n (.inl z)
      · exact n (.inr (.inr z))
      · exact nd z
    have dnL : ∀ (G : Hp), Same (hid ((p :: L) ++ ad [(d, MO.dK kvs)]) G) (hid (p :: (L ++ ad [(d, MO.dK kvs)])) G) := fun G => hid_sub fun a ha => by
      simpa using ha
    refine q p us (upd H1 d (.dK ks)) hp0 ⟨Paired.mapP o2.sl fun _ _ r => r.mono sub, fun x hx => ?_, o.nd, fun a x e => ?_, o.fn, fun a ha => ?_⟩ rfl (fun a x e => s12 a x (by simpa [ad] using e)) (by rw [upd_ne npd]; exact g1) ?_
    · have ex : x = (d, .dK kvs) := by simpa using hx
      subst ex
      refine ⟨ks, upd_same, DD.mono (fun a x e => ?_) h2⟩
      obtain ⟨n, e2⟩ := hid_some e
      have nd : a ≠ d := fun z => n (List.mem_append_right _ (by rw [z]; simp [ad]))
      refine hid_of (fun z => ?_) (s12 a x (hid_of (by simpa using nd) e2))
      rcases List.mem_append.mp z with z | z
      · rcases List.mem_cons.mp z with z | z
        · rw [z, hp0] at e2; cases e2
        · exact n (List.mem_append_left _ z)
      · exact n (List.mem_append_right _ z)
    · rw [upd_ne (fun z => by rw [z, hFd] at e; cases e)]; exact o2.fr a x e
    · by_cases e : a = d
      · rw [e, upd_same]; exact fun z => nomatch z
      · rw [upd_ne e]
        refine o2.lv a ?_
        rcases List.mem_cons.mp ha with z | z
        · rw [z]; exact List.mem_cons_self
        · exact List.mem_cons_of_mem _ (List.mem_cons_of_mem _ z)
    · rw [← e0]
      refine DpAll.mono (fun a x e => dnL _ a x (sub a x ?_)) g2
      simpa [ad] using e
end Wm

/-! a walk over a written dict; len of an own instance. -/
namespace Wm
open PySem L2 PySem.Spec PyProof.Rows
/-! ### for k in {..} -/
def iKeysL (td : TE) : TI := fun σ H R => td σ H fun x H1 => ∃ d kvs, x = .ref d ∧ H1 d = some (.dK kvs) ∧ ∀ od, R (Itk d od kvs) (upd H1 d (.frz od (.dK kvs)))
section
variable {X : Cx} {tg e : Expr} {td : TE}
theorem pi_keysL (he : PE X e td) : PI X tg e (iKeysL td) := by
  refine ⟨fun pins s σ H R I h => ?_⟩
  refine thn (he.run pins s σ H _ I h) fun u s1 ⟨x, H1, I0, rx, d, kvs, ex, hd0, q⟩ => ?_
  subst ex
  obtain rfl : u = Value.ref d := rx
  obtain ⟨o, I1⟩ := I0.lock hd0 trivial
  have hd : upd H1 d (.frz o (.dK kvs)) d = some (.frz o (.dK kvs)) := upd_same
  obtain ⟨hs, hgd, hx, es, ep, vs, hdt, hsz, kv, hm⟩ := I1.frzK hd
  refine iter_keys hs hgd hx hdt (pi_one (tk := s1.toks) I1 _ (turn_keys _ hdt) ⟨_, Heap.get?_push_size _ rfl, rfl, ?_⟩ (q o))
  rw [hsz] <;> rfl
end
/-! ### len of an own instance -/
def rLenOwn (C : Addr) (sp : Sp) (E : XK) : List V → Hp → VK → Prop := fun xs H Q => ∃ a dx fs, xs = [.ref a] ∧ H a = some (.ins C dx fs) ∧ sp [.ref a] H (fun v H' => ∃ n : Int, v = .int n ∧ (0 ≤ n ∧ n < 2 ^ 63) ∧ Q (.int n) H') E
theorem call_lenOwn {X : Cx} {CX : CXT} {C f : Addr} {fd : FuncData} {ps : List Str} {sp : Sp} {E : XK} {k : Nat} (F : FnOk X.prog X.w X.K X.mg X.base CX k f fd ps sp) (hr : Room (k + 1) X.A)
    (hs : PySem.W.findIn X.K (.ref C) "__len__" = some (some (.ref f))) (hf : PySem.W.isFn X.K (.ref f) = true) (hb : Binds X.K fd ps []) (hx : Passes CX X E) : CallR X (.builtin "len") (rLenOwn C sp E) := by
  intro pins s σ H xs us Q I r h
  obtain ⟨a, dx, fs, rfl, ha, hsp⟩ := h
  rw [Vals.ref1 r]
  obtain ⟨mA, J, _⟩ := ins_get I.hok ha
  obtain ⟨od, J, _⟩ := J.look
  obtain ⟨m, hF⟩ := I.fr
  refine PySem.W.len_K hF I.ok.mod.kin J hs hf ?_
  have hl := F.len _ _ _ _ hsp
  have r2 : Vals [V.ref a] [Value.ref a] := .cons rfl .nil
  refine wpAny_call (codeAny_mono (F.run X.A.in1 X.stack s H ⟨[.ref a], []⟩ [.ref a] [.ref a] _ E hr.in1 I.env0.in1 (by
    have := hb s [.ref a] I.kIn (by simpa using hl)
    simpa using this) r2 hsp) fun r s' hq => ?_)
  cases r with
  | error e => exact hx pins σ H s e s' I hq
  | ok fl =>
    cases fl with
    | ret w =>
      obtain ⟨z, H', I', rz, n, ez, hn, q⟩ := I.after hq
      subst ez
      obtain ⟨t, rfl⟩ := (show ∃ t, w = Value.int n t from rz)
      exact ⟨hn, ⟨.int n, H', I'.tok _, ⟨_, rfl⟩, q⟩⟩
    | next => exact False.elim hq
    | brk => exact False.elim hq
    | cont => exact False.elim hq
/-! ### the keys of a written dict -/
def ddI (acc : List Int) (ks : List Int) : List Int := ks.foldl (fun a k => if k ∈ a then a else a ++ [k]) acc
theorem ddI_mem : ∀ (ks acc : List Int) (x : Int), x ∈ ddI acc ks ↔ x ∈ acc ∨ x ∈ ks
  | [], acc, x => by simp [ddI]
  | k :: ks, acc, x => by
    show x ∈ ddI (if k ∈ acc then acc else acc ++ [k]) ks ↔ _
    rw [ddI_mem ks]
    by_cases h : k ∈ acc
    · rw [if_pos h, List.mem_cons]
      constructor
      · rintro (z | z)
        · exact .inl z
        · exact .inr (.inr z)
      · rintro (z | z | z)
        · exact .inl z
        · exact .inl (z ▸ h)
        · exact .inr z
    · rw [if_neg h, List.mem_append, List.mem_singleton, List.mem_cons]
      constructor
      · rintro ((z | z) | z)
        · exact .inl z
        · exact .inr (.inl z)
        · exact .inr (.inr z)
      · rintro (z | z | z)
        · exact .inl (.inl z)
        · exact .inl (.inr z)
        · exact .inr z
open Classical in
theorem putK_keys (kvs : List (Key × V)) (k : Key) (v : V) : (putK kvs k v).map (·.1) = if k ∈ kvs.map (·.1) then kvs.map (·.1) else kvs.map (·.1) ++ [k] := by
  unfold putK
  by_cases h : (kvs.any fun kv => decide (kv.1 = k)) = true
  · have hm : k ∈ kvs.map (·.1) := by
      obtain ⟨e, he, hk⟩ := List.any_eq_true.mp h
      exact List.mem_map.mpr ⟨e, he, of_decide_eq_true hk⟩
    rw [if_pos h, if_pos hm, List.map_map]
    refine List.map_congr_left fun a _ => ?_
    show (if a.1 = k then (a.1, v) else a).1 = a.1
    split <;> rfl
  · have hm : k ∉ kvs.map (·.1) := fun hm => by
      obtain ⟨e, he, hk⟩ := List.mem_map.mp hm
      exact h (List.any_eq_true.mpr ⟨e, he, decide_eq_true hk⟩)
    rw [if_neg h, if_neg hm, List.map_append]; rfl
theorem mergeK_keys : ∀ (kvs acc : List (Key × V)) (ks a : List Int), kvs.map (·.1) = ks.map Sum.inl → acc.map (·.1) = a.map Sum.inl → (mergeK acc kvs).map (·.1) = (ddI a ks).map Sum.inl
  | [], acc, ks, a, h1, h2 => by
    cases ks with
    | nil => exact h2
    | cons => cases h1
  | p :: kvs, acc, ks, a, h1, h2 => by
    cases ks with
    | nil => cases h1
    | cons k ks =>
      rw [List.map_cons, List.map_cons, List.cons.injEq] at h1
      show (mergeK (putK acc p.1 p.2) kvs).map _ = (ddI (if k ∈ a then a else a ++ [k]) ks).map _
      refine mergeK_keys kvs _ ks _ h1.2 ?_
      rw [putK_keys, h1.1, h2]
      have e : (Sum.inl k : Key) ∈ a.map Sum.inl ↔ k ∈ a := by
        rw [List.mem_map]
        exact ⟨fun ⟨x, hx, e⟩ => by cases e; exact hx, fun h => ⟨k, h, rfl⟩⟩
      by_cases h : k ∈ a
      · rw [if_pos (e.mpr h), if_pos h]
      · rw [if_neg (fun z => h (e.mp z)), if_neg h, List.map_append]; rfl
section
variable {K : PySem.W.Frag} {F F' H H' H0 H1 : Hp} {L : List Addr} {σ σ' : L2.St} {ρ ρ' : List Sl} {M M' M0 M1 M2 M3 Mn : Ms}
variable {te ta tb tc td tk tv : TE} {s : Sl} {trs : List (TE × TE)} {ks : List Int} {k : Int}
def EvPs (K : PySem.W.Frag) (trs : List (TE × TE)) (ρ : List Sl) (M : Ms) (ks : List Int) (M' : Ms) : Prop := ∀ F L σ H, Ok K F L σ H ρ M → ∀ Q : List (V × V) → Hp → Prop, (∀ ps H1, Ok K F L σ H1 ρ M' → ad M' = ad M → Same (hid (ad M) H) H1 → ps.map (·.1) = ks.map V.int → Q ps H1) → tPairs trs σ H Q
theorem eps_nil : EvPs K [] ρ M [] M := fun F L σ H o Q q => q [] H o rfl (hid_le _ _) rfl
theorem eps_cons (hk : Ev K tk ρ M (.dat (.int k)) M1) (hv : Ev K tv ρ M1 s M2) (hr : EvPs K trs ρ M2 ks M3) : EvPs K ((tk, tv) :: trs) ρ M (k :: ks) M3 := fun F L σ H o Q q =>
  hk F L σ H o _ fun x H1 o1 e1 a1 x1 => hv F L σ H1 o1 _ fun y H2 o2 e2 a2 y2 => hr F L σ H2 o2 _ fun ps H3 o3 e3 a3 hp => q _ H3 o3 (e3.trans (e2.trans e1)) (chain2 (e2.trans e1) (chain2 e1 a1 a2) a3) (by rw [List.map_cons, List.map_cons, hp, int_of x1])
theorem ei_disp (h : EvPs K trs ρ M ks M1) (hl : ks.length ≤ 15) : EvI K (iKeysL (tDisp trs)) ρ M (ddI [] ks).length (fun i => .int ((ddI [] ks).getD i 0)) M1 := fun F L σ H o R q => fun p hp => by
  have pm : p ∉ ad M := mem_ad_of (Q := fun _ => True) o hp
  have hFp : F p = none := o.fr.free hp
  refine h F (p :: L) σ _ (o.lay (x := .dK []) hp) _ fun ps H2 o2 e2 a2 hk => ?_
  have h2p : H2 p = some (.dK []) := a2 _ _ (hid_of pm upd_same)
  obtain ⟨kvs, hkv, hks⟩ : ∃ kvs : List (Key × V), ps = kvs.map (fun kv => (kV kv.1, kv.2)) ∧ kvs.map (·.1) = ks.map Sum.inl := by
    clear h q h2p a2 o2
    induction ks generalizing ps with
    | nil =>
      cases ps with
      | nil => exact ⟨[], rfl, rfl⟩
      | cons => cases hk
    | cons k ks ih =>
      cases ps with
      | nil => cases hk
      | cons a ps =>
        rw [List.map_cons, List.map_cons, List.cons.injEq] at hk
        obtain ⟨kvs, g1, g2⟩ := ih (by have := hl; rw [List.length_cons] at this; omega) ps hk.2
        refine ⟨(.inl k, a.2) :: kvs, ?_, by rw [List.map_cons, List.map_cons, g2]⟩
        rw [List.map_cons, ← g1]
        refine congrArg (· :: ps) (Prod.ext hk.1 rfl)
  have klen : kvs.length = ks.length := by rw [← List.length_map (f := (·.1)), hks, List.length_map]
  refine ⟨h2p, kvs, hkv, by omega, p, _, rfl, upd_same, fun od => ?_⟩
  have pm1 : p ∉ ad M1 := by rw [e2]; exact pm
  have o3 := ((o2.updL (x := .dK (mergeK [] kvs)) List.mem_cons_self hFp pm1).updL (x := .frz od (.dK (mergeK [] kvs))) List.mem_cons_self hFp pm1).lift
  have ek := mergeK_keys kvs [] ks [] hks rfl
  have elen : (mergeK [] kvs).length = (ddI [] ks).length := by rw [← List.length_map (f := (·.1)), ek, List.length_map]
  refine q _ _ o3 e2 (fun a x e => ?_) fun i G sG => ?_
  · obtain ⟨n, e3⟩ := hid_some e
    have np : a ≠ p := ne_of_none e3 hp
    rw [upd_ne np, upd_ne np]
    exact a2 a x (hid_of n (by rw [upd_ne np]; exact e3))
  · have hGp : G p = some (.frz od (.dK (mergeK [] kvs))) := sG _ _ (hid_of pm1 upd_same)
    refine ⟨fun hi => ⟨⟨hGp, by rw [elen]; exact hi⟩, fun x G' hy => ?_⟩, fun hi => ⟨hGp, by rw [elen]; exact hi⟩⟩
    obtain ⟨rfl, key, v, hkey, rfl⟩ := hy
    refine ⟨Same.refl _, fun Y hY => ?_⟩
    have e4 : ((mergeK [] kvs).map (·.1))[i]? = some key := by rw [List.getElem?_map, hkey]; rfl
    rw [ek, List.getElem?_map] at e4
    rw [List.getElem?_eq_getElem hi] at e4
    cases e4
    show Dp K _ _ (.int ((ddI [] ks).getD i 0))
    rw [List.getD_eq_getElem?_getD, List.getElem?_eq_getElem hi]
    exact .int _
/-- len(o), by its own __len__ -/
theorem ev_lenOwn {R : Ms → List Sl → PyData → Ms → Prop} {C p : Addr} {fs : List (Str × Sl)} {E : XK} {n : Int} (ha : Ev K ta ρ M (.loc (.ref p)) M1) (hp : (p, MO.ins C fs) ∈ M1) (M0 : Ms) (hs : M0.Sublist M1) (hR : R M0 [.loc (.ref p)] (.int n) M0) (hn : 0 ≤ n ∧ n < 2 ^ 63) :
    Ev K (tCB (rLenOwn C (spMs K R) E) (tCons ta tNil)) ρ M (.dat (.int n)) M1 := fun F L σ H o Q q => ha F L σ H o _ fun x H1 o1 e1 a1 x1 => by
  have ex : x = .ref p := x1
  subst ex
  obtain ⟨dx, gs, h1, h2⟩ := o1.ob _ hp
  have sub : ∀ a, a ∈ ad M0 → a ∈ ad M1 := fun a ha => by
    obtain ⟨y, hy, e⟩ := List.mem_map.mp ha
    exact List.mem_map.mpr ⟨y, hs.subset hy, e⟩
  refine ⟨p, dx, gs, rfl, h1, L ++ ad M1, M0, [.loc (.ref p)], .int n, M0, fun a ha => o1.there ha, fun a ha => List.mem_append_right _ (sub a ha), List.Nodup.sublist (hs.map _) o1.nd, .cons rfl .nil, fun x hx => o1.ob x (hs.subset hx), hR, rfl, fun v H2 s2 hm hv => ?_⟩
  obtain ⟨o2, s3⟩ := swap_ok (M2 := M1) o1 (fun nd => Sw.same hs nd) s2 hm rfl
  have ev : v = .int n := int_of (K := K) hv
  exact ⟨n, ev, hn, q _ H2 o2 e1 (chain2 e1 a1 s3) (.int n)⟩
end
end Wm

/-! dicts whose keys are tuples of a pair and two whole numbers, told as data. -/
namespace Wm
open PySem L2 PySem.Spec PyProof.Rows
abbrev spotD (k : Spot) : PyData := .tuple [.tuple [.int k.1.1, .int k.1.2], .int k.2.1, .int k.2.2]
section
variable {K : PySem.W.Frag} {H : Hp}
theorem spot_of {k : Spot} {v : V} (h : Dp K H v (spotD k)) : ∃ b, v = .ref b ∧ SpotAt H k b := by
  obtain ⟨a, xs, rfl, h1, h2⟩ := tupK_of (K := K) (H := H) h
  cases h2 with
  | cons g1 h2 =>
    cases h2 with
    | cons g2 h2 =>
      cases h2 with
      | cons g3 h2 =>
        cases h2
        obtain ⟨c, ys, rfl, h3, h4⟩ := tupK_of (K := K) (H := H) g1
        cases h4 with
        | cons g4 h4 =>
          cases h4 with
          | cons g5 h4 =>
            cases h4
            have e2 := int_of (K := K) (H := H) g2
            have e3 := int_of (K := K) (H := H) g3
            have e4 := int_of (K := K) (H := H) g4
            have e5 := int_of (K := K) (H := H) g5
            subst e2 e3 e4 e5
            exact ⟨a, rfl, c, h1, h3⟩
theorem SpotAt.un {X : List Addr} {k : Spot} {b : Addr} (h : SpotAt (hid X H) k b) : SpotAt H k b := h.mono fun _ _ e => (hid_some e).2
end
section
variable {H0 : Hp}
theorem NP.no {k : Spot} : ∀ {xs : NX} {kvs : List (Spot × PyData)}, NP H0 xs kvs → valD kvs k = none → atN xs k = none
  | _, _, .nil, _ => rfl
  | x :: xs, f :: fs, .cons r t, h => by
    have h' : (if f.1 = k then some f.2 else valD fs k) = Option.none := h
    by_cases e : f.1 = k
    · rw [if_pos e] at h'; cases h'
    · rw [if_neg e] at h'
      have ih := NP.no t h'
      have e' : ¬ x.1 = k := fun z => e (r.1.symm.trans z)
      simpa [atN, List.find?_cons, e'] using ih
theorem NP.yes {k : Spot} {d : PyData} : ∀ {xs : NX} {kvs : List (Spot × PyData)}, NP H0 xs kvs → valD kvs k = some d → ∃ c, atN xs k = some c ∧ d = .bool c
  | _, _, .nil, h => by cases h
  | x :: xs, f :: fs, .cons r t, h => by
    have h' : (if f.1 = k then some f.2 else valD fs k) = Option.some d := h
    by_cases e : f.1 = k
    · rw [if_pos e] at h'
      cases h'
      exact ⟨x.2.2, by simp [atN, List.find?_cons, r.1.trans e], r.2.1⟩
    · rw [if_neg e] at h'
      obtain ⟨c, g1, g2⟩ := NP.yes t h'
      have e' : ¬ x.1 = k := fun z => e (r.1.symm.trans z)
      exact ⟨c, by simpa [atN, List.find?_cons, e'] using g1, g2⟩
theorem NP.spots : ∀ {xs : NX} {kvs : List (Spot × PyData)}, NP H0 xs kvs → ∀ x ∈ xs, SpotAt H0 x.1 x.2.1
  | _, _, .nil, x, h => by cases h
  | _, _, .cons r t, x, h => by
    rcases List.mem_cons.mp h with z | z
    · subst z; exact r.2.2
    · exact NP.spots t x z
theorem NP.len {xs : NX} {kvs : List (Spot × PyData)} (r : NP H0 xs kvs) : xs.length = kvs.length := paired_len r
theorem atN_any (k : Spot) : ∀ xs : NX, (xs.any fun x => decide (x.1 = k)) = (atN xs k).isSome
  | [] => rfl
  | x :: xs => by
    have ih := atN_any k xs
    by_cases e : x.1 = k
    · simp [atN, List.find?_cons, e]
    · simpa [atN, List.find?_cons, e] using ih
theorem NP.put {xs : NX} {kvs : List (Spot × PyData)} {k : Spot} {b : Addr} (c : Bool) (r : NP H0 xs kvs) (hb : SpotAt H0 k b) : NP H0 (putN xs k b c) (putD kvs k (.bool c)) := by
  unfold putD putN
  rw [atN_any]
  cases e : valD kvs k with
  | none =>
    rw [r.no e]
    exact paired_app r (.cons ⟨rfl, rfl, hb⟩ .nil)
  | some x =>
    obtain ⟨y, h1, h2⟩ := r.yes e
    rw [h1]
    show NP H0 (xs.map _) (kvs.map _)
    clear e h1 h2
    induction r with
    | nil => exact .nil
    | cons r t ih =>
      rw [List.map_cons, List.map_cons]
      refine .cons ?_ ih
      split
      · rename_i e; rw [if_pos (r.1.symm.trans e)]; exact ⟨r.1, rfl, r.2.2⟩
      · rename_i e; rw [if_neg (fun z => e (r.1.trans z))]; exact r
end
section
variable {K : PySem.W.Frag} {F F' H H' H0 H1 : Hp} {L : List Addr} {σ σ' : L2.St} {ρ ρ' : List Sl} {M M' M0 M1 M2 M3 Mn : Ms}
variable {te ta tb tc ti td ty tx tv : TE} {tt : TT} {tr : TA} {s s1 s2 : Sl} {ss : List Sl} {d d1 d2 d3 : PyData} {ds es : List PyData} {D : Ends} {tu tw tz : TS} {g : TG} {p q : Addr}
theorem dN_at (o : Ok K F L σ H ρ M) {kvs : List (Spot × PyData)} (hp : (p, MO.dN kvs) ∈ M) : ∃ xs, H p = some (.ext (φN p xs)) ∧ NP (hid (L ++ ad M) H) xs kvs := o.ob _ hp
theorem dQ_at (o : Ok K F L σ H ρ M) {Φ : List (Spot × PyData) → Prop} (hp : (p, MO.dQ Φ) ∈ M) : ∃ xs kvs, Φ kvs ∧ H p = some (.ext (φN p xs)) ∧ NP (hid (L ++ ad M) H) xs kvs := o.ob _ hp
theorem nw_dN : ∀ F L σ H, Ok K F L σ H ρ M → ∀ Q : VK, (∀ q H1, F q = none → q ∉ ad M → Ok K F L σ H1 ρ (M ++ [(q, .dN [])]) → Same (hid (ad M) H) H1 → Q (.ref q) H1) → tDNewN σ H Q := fun F L σ H o Q k q hq => by
  obtain ⟨h1, h2, h3, h4⟩ := new_dict (y := .dN []) (x := .ext (φN q [])) o hq fun G => ⟨[], upd_same, .nil⟩
  exact k q _ h1 h2 h3 h4
/-- d[k], whatever the dict holds else -/
theorem ev_ngetQ {k : Spot} {Φ : List (Spot × PyData) → Prop} {c : Bool} (hd : Ev K td ρ M (.loc (.ref p)) M) (hk : Ev K ty ρ M (.dat (spotD k)) M) (hp : (p, MO.dQ Φ) ∈ M) (hv : ∀ kvs, Φ kvs → valD kvs k = some (.bool c)) : Ev K (tNGet td ty) ρ M (.dat (.bool c)) M := fun F L σ H o Q q =>
  hd F L σ H o _ fun x H1 o1 e1 a1 x1 => hk F L σ H1 o1 _ fun y H2 o2 e2 a2 y2 => by
    have ex : x = .ref p := x1
    subst ex
    obtain ⟨b, rfl, hb⟩ := spot_of y2
    obtain ⟨xs, kvs, h0, h1, h2⟩ := dQ_at o2 hp
    obtain ⟨c', g1, g2⟩ := h2.yes (hv kvs h0)
    cases g2
    exact ⟨p, c, rfl, ⟨xs, k, b, h1, fun x hx => (h2.spots x hx).un, rfl, hb.un, g1.symm⟩, q _ H2 o2 e2 (chain2 rfl a1 a2) (.bl c)⟩
theorem ev_ngetN {k : Spot} {kvs : List (Spot × PyData)} {c : Bool} (hd : Ev K td ρ M (.loc (.ref p)) M) (hk : Ev K ty ρ M (.dat (spotD k)) M) (hp : (p, MO.dN kvs) ∈ M) (hv : valD kvs k = some (.bool c)) : Ev K (tNGet td ty) ρ M (.dat (.bool c)) M := fun F L σ H o Q q =>
  hd F L σ H o _ fun x H1 o1 e1 a1 x1 => hk F L σ H1 o1 _ fun y H2 o2 e2 a2 y2 => by
    have ex : x = .ref p := x1
    subst ex
    obtain ⟨b, rfl, hb⟩ := spot_of y2
    obtain ⟨xs, h1, h2⟩ := dN_at o2 hp
    obtain ⟨c', g1, g2⟩ := h2.yes hv
    cases g2
    exact ⟨p, c, rfl, ⟨xs, k, b, h1, fun x hx => (h2.spots x hx).un, rfl, hb.un, g1.symm⟩, q _ H2 o2 e2 (chain2 rfl a1 a2) (.bl c)⟩
theorem et_nNotInN {k : Spot} {kvs : List (Spot × PyData)} (hk : Ev K ty ρ M (.dat (spotD k)) M) (hd : Ev K td ρ M (.loc (.ref p)) M) (hp : (p, MO.dN kvs) ∈ M) : EvT K (tB (tNNotIn ty td)) ρ M (valD kvs k).isNone M := fun F L σ H o Q q =>
  hk F L σ H o _ fun y H1 o1 e1 a1 y1 => hd F L σ H1 o1 _ fun x H2 o2 e2 a2 x2 => by
    have ex : x = .ref p := x2
    subst ex
    obtain ⟨b, rfl, hb⟩ := spot_of (K := K) (H := hid (L ++ ad M) H2) (later (L := L) rfl a2 y1)
    obtain ⟨xs, h1, h2⟩ := dN_at o2 hp
    refine ⟨p, _, rfl, ⟨xs, k, b, h1, fun x hx => (h2.spots x hx).un, rfl, hb.un, rfl⟩, _, rfl, ?_⟩
    have e : (!(atN xs k).isSome) = (valD kvs k).isNone := by
      cases e : valD kvs k with
      | none => rw [h2.no e]; rfl
      | some d' =>
        obtain ⟨v, g1, _⟩ := h2.yes e
        rw [g1]; rfl
    rw [e]
    exact q H2 o2 e2 (chain2 rfl a1 a2)
/-- d[k] = v -/
theorem s_nputQ {k : Spot} {Φ Ψ : List (Spot × PyData) → Prop} {c : Bool} {j : Nat} (hv : Ev K tv ρ M (.dat (.bool c)) M1) (hd : Ev K td ρ M1 (.loc (.ref p)) M1) (hk : Ev K ty ρ M1 (.dat (spotD k)) M1) (hj : M1[j]? = some (p, .dQ Φ)) (hz : ∀ kvs, Φ kvs → kvs.length < 1000000 ∧ Ψ (putD kvs k (.bool c)))
    (k' : ∀ H, Ok K F L σ H ρ (M1.set j (p, .dQ Ψ)) → D.nx σ H) (o : Ok K F L σ H ρ M) : sNPut td ty tv D σ H := hv F L σ H o _ fun v H1 o1 e1 a1 v1 => hd F L σ H1 o1 _ fun x H2 o2 e2 a2 x2 => hk F L σ H2 o2 _ fun y H3 o3 e3 a3 y3 => by
  have ex : x = .ref p := x2
  subst ex
  obtain ⟨b, rfl, hb⟩ := spot_of y3
  have ev := bl_of v1
  subst ev
  obtain ⟨xs, kvs, h0, h1, h2⟩ := dQ_at o3 (List.mem_of_getElem? hj)
  obtain ⟨z1, z2⟩ := hz kvs h0
  refine ⟨p, _, rfl, ⟨xs, k, b, c, h1, fun x hx => (h2.spots x hx).un, rfl, hb.un, rfl, by rw [h2.len]; exact line_lt z1, rfl⟩, k' _ ?_⟩
  refine o3.change hj (same_hid_upd (by simp)) ⟨_, _, z2, upd_same, ?_⟩ (live_upd o3)
  rw [hid_upd (List.mem_append_right _ (mem_ad hj))]
  exact h2.put c hb
theorem s_nputN {k : Spot} {kvs : List (Spot × PyData)} {c : Bool} {j : Nat} (hv : Ev K tv ρ M (.dat (.bool c)) M1) (hd : Ev K td ρ M1 (.loc (.ref p)) M1) (hk : Ev K ty ρ M1 (.dat (spotD k)) M1) (hj : M1[j]? = some (p, .dN kvs)) (hz : kvs.length < 1000000)
    (k' : ∀ H, Ok K F L σ H ρ (M1.set j (p, .dN (putD kvs k (.bool c)))) → D.nx σ H) (o : Ok K F L σ H ρ M) : sNPut td ty tv D σ H := hv F L σ H o _ fun v H1 o1 e1 a1 v1 => hd F L σ H1 o1 _ fun x H2 o2 e2 a2 x2 => hk F L σ H2 o2 _ fun y H3 o3 e3 a3 y3 => by
  have ex : x = .ref p := x2
  subst ex
  obtain ⟨b, rfl, hb⟩ := spot_of y3
  have ev := bl_of v1
  subst ev
  obtain ⟨xs, h1, h2⟩ := dN_at o3 (List.mem_of_getElem? hj)
  refine ⟨p, _, rfl, ⟨xs, k, b, c, h1, fun x hx => (h2.spots x hx).un, rfl, hb.un, rfl, by rw [h2.len]; exact line_lt hz, rfl⟩, k' _ ?_⟩
  refine o3.change hj (same_hid_upd (by simp)) ⟨_, upd_same, ?_⟩ (live_upd o3)
  rw [hid_upd (List.mem_append_right _ (mem_ad hj))]
  exact h2.put c hb
theorem q_nputQ {k : Spot} {Φ Ψ : List (Spot × PyData) → Prop} {c : Bool} {j : Nat} (hv : Ev K tv ρ M (.dat (.bool c)) M1) (hd : Ev K td ρ M1 (.loc (.ref p)) M1) (hk : Ev K ty ρ M1 (.dat (spotD k)) M1) (hj : M1[j]? = some (p, .dQ Φ)) (hz : ∀ kvs, Φ kvs → kvs.length < 1000000 ∧ Ψ (putD kvs k (.bool c)))
    (k' : ∀ H, Ok K F L σ H ρ (M1.set j (p, .dQ Ψ)) → tz D σ H) (o : Ok K F L σ H ρ M) : tSeq (sNPut td ty tv) tz D σ H := s_nputQ (D := { D with nx := tz D }) hv hd hk hj hz k' o
theorem q_nputN {k : Spot} {kvs : List (Spot × PyData)} {c : Bool} {j : Nat} (hv : Ev K tv ρ M (.dat (.bool c)) M1) (hd : Ev K td ρ M1 (.loc (.ref p)) M1) (hk : Ev K ty ρ M1 (.dat (spotD k)) M1) (hj : M1[j]? = some (p, .dN kvs)) (hz : kvs.length < 1000000)
    (k' : ∀ H, Ok K F L σ H ρ (M1.set j (p, .dN (putD kvs k (.bool c)))) → tz D σ H) (o : Ok K F L σ H ρ M) : tSeq (sNPut td ty tv) tz D σ H := s_nputN (D := { D with nx := tz D }) hv hd hk hj hz k' o
/-- opened, closed, told less -/
theorem Ok.openQ {Φ : List (Spot × PyData) → Prop} {j : Nat} (o : Ok K F L σ H ρ M) (hj : M[j]? = some (p, .dQ Φ)) : ∃ kvs, Φ kvs ∧ Ok K F L σ H ρ (M.set j (p, .dN kvs)) := by
  obtain ⟨xs, kvs, h0, h1, h2⟩ := o.ob _ (List.mem_of_getElem? hj)
  exact ⟨kvs, h0, o.change hj (hid_le _ _) ⟨xs, h1, h2⟩ fun a ha _ => o.lv a ha⟩
theorem Ok.closeQ {Φ : List (Spot × PyData) → Prop} {j : Nat} {kvs : List (Spot × PyData)} (o : Ok K F L σ H ρ M) (hj : M[j]? = some (p, .dN kvs)) (hp : Φ kvs) : Ok K F L σ H ρ (M.set j (p, .dQ Φ)) := by
  obtain ⟨xs, h1, h2⟩ := o.ob _ (List.mem_of_getElem? hj)
  exact o.change hj (hid_le _ _) ⟨xs, kvs, hp, h1, h2⟩ fun a ha _ => o.lv a ha
theorem Ok.lessQ {Φ Ψ : List (Spot × PyData) → Prop} {j : Nat} (o : Ok K F L σ H ρ M) (hj : M[j]? = some (p, .dQ Φ)) (hp : ∀ kvs, Φ kvs → Ψ kvs) : Ok K F L σ H ρ (M.set j (p, .dQ Ψ)) := by
  obtain ⟨xs, kvs, h0, h1, h2⟩ := o.ob _ (List.mem_of_getElem? hj)
  exact o.change hj (hid_le _ _) ⟨xs, kvs, hp _ h0, h1, h2⟩ fun a ha _ => o.lv a ha
/-- d, n = {}, .. -/
theorem s_parNw {i j : Nat} {x : MO} (hv : ∀ F L σ H, Ok K F L σ H ρ M → ∀ Q : VK, (∀ q H1, F q = none → q ∉ ad M → Ok K F L σ H1 ρ (M ++ [(q, x)]) → Same (hid (ad M) H) H1 → Q (.ref q) H1) → te σ H Q)
    (h2 : ∀ p, Ev K tb ρ (M ++ [(p, x)]) (.dat d) (M ++ [(p, x)])) (k : ∀ p σ H, Ok K F L σ H ((ρ.set i (.loc (.ref p))).set j (.dat d)) (M ++ [(p, x)]) → D.nx σ H) (o : Ok K F L σ H ρ M) : tPar i j (tCons te (tCons tb tNil)) D σ H := hv F L σ H o _ fun p H1 hf hm o1 a1 => h2 p F L σ H1 o1 _ fun y H2 o2 e2 a2 y2 =>
  ⟨.ref p, y, rfl, k p _ _ (Ok.set (Ok.set (v := .ref p) (s := .loc (.ref p)) o2 rfl) y2)⟩
theorem q_parNw {i j : Nat} {x : MO} (hv : ∀ F L σ H, Ok K F L σ H ρ M → ∀ Q : VK, (∀ q H1, F q = none → q ∉ ad M → Ok K F L σ H1 ρ (M ++ [(q, x)]) → Same (hid (ad M) H) H1 → Q (.ref q) H1) → te σ H Q)
    (h2 : ∀ p, Ev K tb ρ (M ++ [(p, x)]) (.dat d) (M ++ [(p, x)])) (k : ∀ p σ H, Ok K F L σ H ((ρ.set i (.loc (.ref p))).set j (.dat d)) (M ++ [(p, x)]) → tz D σ H) (o : Ok K F L σ H ρ M) : tSeq (tPar i j (tCons te (tCons tb tNil))) tz D σ H := s_parNw (D := { D with nx := tz D }) hv h2 k o
end
end Wm

namespace Wm
/-! ### least and greatest of a list -/
def mxL : List Int → Int
  | [] => 0
  | [x] => x
  | x :: y :: r => max x (mxL (y :: r))
def mnL : List Int → Int
  | [] => 0
  | [x] => x
  | x :: y :: r => min x (mnL (y :: r))
theorem mxL_mem : ∀ {xs : List Int}, xs ≠ [] → mxL xs ∈ xs
  | [], h => absurd rfl h
  | [x], _ => by simp [mxL]
  | x :: y :: r, _ => by
    have ih := mxL_mem (xs := y :: r) (by simp)
    unfold mxL
    by_cases h : mxL (y :: r) ≤ x
    · rw [Int.max_eq_left h]; exact List.mem_cons_self
    · rw [Int.max_eq_right (by omega)]; exact List.mem_cons_of_mem _ ih
theorem mxL_le : ∀ {xs : List Int} {x : Int}, x ∈ xs → x ≤ mxL xs
  | [x], y, h => by simp at h; subst h; exact Int.le_refl _
  | x :: y :: r, z, h => by
    unfold mxL
    rcases List.mem_cons.mp h with h | h
    · subst h; omega
    · have := mxL_le h; omega
theorem mnL_mem : ∀ {xs : List Int}, xs ≠ [] → mnL xs ∈ xs
  | [], h => absurd rfl h
  | [x], _ => by simp [mnL]
  | x :: y :: r, _ => by
    have ih := mnL_mem (xs := y :: r) (by simp)
    unfold mnL
    by_cases h : x ≤ mnL (y :: r)
    · rw [Int.min_eq_left h]; exact List.mem_cons_self
    · rw [Int.min_eq_right (by omega)]; exact List.mem_cons_of_mem _ ih
theorem mnL_le : ∀ {xs : List Int} {x : Int}, x ∈ xs → mnL xs ≤ x
  | [x], y, h => by simp at h; subst h; exact Int.le_refl _
  | x :: y :: r, z, h => by
    unfold mnL
    rcases List.mem_cons.mp h with h | h
    · subst h; omega
    · have := mnL_le h; omega
/-! ### the parts that a move leaves -/
def cutsOf (lo hi p l : Int) : List (Int × Int) :=
  if p = l then [(lo, hi)] else
    (if lo ≤ min hi ((p + l - 1) / 2) then [(lo, min hi ((p + l - 1) / 2))] else []) ++
    ((if max lo ((p + l + 1) / 2) ≤ min hi ((p + l) / 2) then [(max lo ((p + l + 1) / 2), min hi ((p + l) / 2))] else []) ++
    (if max lo ((p + l) / 2 + 1) ≤ hi then [(max lo ((p + l) / 2 + 1), hi)] else []))
theorem cuts_sub {lo hi p l : Int} (h : lo ≤ hi) {c : Int × Int} (hc : c ∈ cutsOf lo hi p l) : lo ≤ c.1 ∧ c.1 ≤ c.2 ∧ c.2 ≤ hi := by
  unfold cutsOf at hc
  split at hc
  · have e : c = (lo, hi) := by simpa using hc
    subst e
    exact ⟨Int.le_refl _, h, Int.le_refl _⟩
  · simp only [List.mem_append] at hc
    rcases hc with hc | hc | hc
    all_goals
      split at hc
      · have e := List.mem_singleton.mp hc
        subst e
        refine ⟨?_, ?_, ?_⟩ <;> dsimp only <;> omega
      · cases hc
/-- more than one: each is smaller -/
theorem cuts_lt {lo hi p l : Int} (h : lo ≤ hi) (h2 : 1 < (cutsOf lo hi p l).length) {c : Int × Int} (hc : c ∈ cutsOf lo hi p l) : c.2 - c.1 < hi - lo := by
  unfold cutsOf at hc h2
  split at hc
  · rename_i e
    rw [if_pos e] at h2
    simp at h2
  · rename_i e
    rw [if_neg e] at h2
    simp only [List.length_append] at h2
    simp only [List.mem_append] at hc
    rcases hc with hc | hc | hc
    all_goals
      split at hc
      · have e := List.mem_singleton.mp hc
        subst e
        dsimp only
        (repeat' split at h2) <;> simp only [List.length_cons, List.length_nil] at h2 <;> omega
      · cases hc
theorem cuts_self {lo hi p : Int} : cutsOf lo hi p p = [(lo, hi)] := by unfold cutsOf; rw [if_pos rfl]
theorem cuts_one {lo hi p l : Int} (h : lo ≤ hi) (h2 : ¬ 1 < (cutsOf lo hi p l).length) : cutsOf lo hi p l = [(lo, hi)] := by
  unfold cutsOf at h2 ⊢
  split
  · rfl
  · rename_i e
    rw [if_neg e] at h2
    simp only [List.length_append] at h2
    by_cases g1 : lo ≤ min hi ((p + l - 1) / 2) <;> by_cases g2 : max lo ((p + l + 1) / 2) ≤ min hi ((p + l) / 2) <;> by_cases g3 : max lo ((p + l) / 2 + 1) ≤ hi <;> simp only [g1, g2, g3, if_true, if_false, List.length_cons, List.length_nil] at h2 ⊢ <;> first
      | omega
      | (simp only [List.nil_append, List.append_nil, List.cons.injEq, Prod.mk.injEq, and_true, true_and]; omega)
theorem cuts_ne {lo hi p l : Int} (h : lo ≤ hi) : cutsOf lo hi p l ≠ [] := fun e => by
  have := cuts_one (p := p) (l := l) h (by rw [e]; simp)
  rw [e] at this; cases this
/-- a part of less lies in a part of more -/
theorem cuts_in {lo hi lo' hi' p l : Int} (h1 : lo ≤ lo') (h2 : lo' ≤ hi') (h3 : hi' ≤ hi) {c : Int × Int} (hc : c ∈ cutsOf lo' hi' p l) : ∃ d ∈ cutsOf lo hi p l, d.1 ≤ c.1 ∧ c.2 ≤ d.2 := by
  unfold cutsOf at hc ⊢
  split at hc
  · rename_i e
    rw [if_pos e]
    have e := List.mem_singleton.mp hc
    subst e
    exact ⟨_, List.mem_singleton.mpr rfl, h1, h3⟩
  · rename_i e
    rw [if_neg e]
    simp only [List.mem_append] at hc ⊢
    rcases hc with hc | hc | hc
    · split at hc
      · have e := List.mem_singleton.mp hc
        subst e
        refine ⟨_, .inl (by rw [if_pos (by omega)]; exact List.mem_singleton.mpr rfl), ?_, ?_⟩ <;> dsimp only <;> omega
      · cases hc
    · split at hc
      · have e := List.mem_singleton.mp hc
        subst e
        refine ⟨_, .inr (.inl (by rw [if_pos (by omega)]; exact List.mem_singleton.mpr rfl)), ?_, ?_⟩ <;> dsimp only <;> omega
      · cases hc
    · split at hc
      · have e := List.mem_singleton.mp hc
        subst e
        refine ⟨_, .inr (.inr (by rw [if_pos (by omega)]; exact List.mem_singleton.mpr rfl)), ?_, ?_⟩ <;> dsimp only <;> omega
      · cases hc
theorem cuts_len {lo hi p l : Int} : (cutsOf lo hi p l).length ≤ 3 := by
  unfold cutsOf
  split
  · simp
  · simp only [List.length_append]
    split <;> split <;> split <;> simp
theorem cuts_step {lo hi : Int} (h : lo < hi) : cutsOf lo hi lo (lo + 1) = [(lo, lo), (lo + 1, hi)] := by
  unfold cutsOf
  rw [if_neg (by omega), if_pos (by omega), if_neg (by omega), if_pos (by omega)]
  simp only [List.nil_append, List.cons_append, List.cons.injEq, Prod.mk.injEq, and_true, true_and]
  omega
/-! ### costs -/
def costOf (b : Bool) (p l : Int) : Int := if b = true then ((p - l).natAbs : Int) else 1
theorem cost_nn {b : Bool} {p l : Int} : 0 ≤ costOf b p l := by unfold costOf; split <;> omega
theorem cost_pos {b : Bool} {p l : Int} (h : l ≠ p) : 1 ≤ costOf b p l := by unfold costOf; split <;> omega
theorem cost_tri {b : Bool} {p q l : Int} : costOf b p l ≤ costOf b p q + costOf b q l := by unfold costOf; split <;> omega
theorem cost_sym {b : Bool} {p l : Int} : costOf b p l = costOf b l p := by unfold costOf; split <;> omega
/-- the worst part -/
def worst (Bf : Int → Int → Int → Int) (lo hi p l : Int) : Int := mxL ((cutsOf lo hi p l).map fun c => Bf c.1 c.2 l)
theorem worst_le {Bf : Int → Int → Int → Int} {lo hi p l : Int} {c : Int × Int} (hc : c ∈ cutsOf lo hi p l) : Bf c.1 c.2 l ≤ worst Bf lo hi p l := mxL_le (List.mem_map.mpr ⟨c, hc, rfl⟩)
theorem worst_at {Bf : Int → Int → Int → Int} {lo hi p l : Int} (h : lo ≤ hi) : ∃ c ∈ cutsOf lo hi p l, worst Bf lo hi p l = Bf c.1 c.2 l := by
  have hm : worst Bf lo hi p l ∈ (cutsOf lo hi p l).map fun c => Bf c.1 c.2 l := mxL_mem (by
    intro e
    exact cuts_ne h (List.map_eq_nil_iff.mp e))
  obtain ⟨c, h1, h2⟩ := List.mem_map.mp hm
  exact ⟨c, h1, h2.symm⟩
/-- what a turn of with_news makes -/
def newsStep (Bf : Int → Int → Int → Int) (b : Bool) (lo hi p : Int) (acc : Option Int) (l : Int) : Option Int :=
  if 1 < (cutsOf lo hi p l).length then
    match acc with
    | none => some (costOf b p l + worst Bf lo hi p l)
    | some a => if costOf b p l + worst Bf lo hi p l < a then some (costOf b p l + worst Bf lo hi p l) else some a
  else acc
def newsK (Bf : Int → Int → Int → Int) (b : Bool) (lo hi p : Int) : Nat → Option Int
  | 0 => none
  | k + 1 => newsStep Bf b lo hi p (newsK Bf b lo hi p k) (1 + (k : Int))
theorem newsK_spec {Bf : Int → Int → Int → Int} {b : Bool} {lo hi p : Int} : ∀ k : Nat,
    (newsK Bf b lo hi p k = none → ∀ l : Int, 1 ≤ l → l ≤ (k : Int) → ¬ 1 < (cutsOf lo hi p l).length) ∧
    ∀ v, newsK Bf b lo hi p k = some v → (∃ l : Int, 1 ≤ l ∧ l ≤ (k : Int) ∧ 1 < (cutsOf lo hi p l).length ∧ v = costOf b p l + worst Bf lo hi p l) ∧ ∀ l : Int, 1 ≤ l → l ≤ (k : Int) → 1 < (cutsOf lo hi p l).length → v ≤ costOf b p l + worst Bf lo hi p l
  | 0 => ⟨fun _ l h1 h2 => by omega, fun v e => by cases e⟩
  | k + 1 => by
    obtain ⟨h1, h2⟩ := newsK_spec (Bf := Bf) (b := b) (lo := lo) (hi := hi) (p := p) k
    unfold newsK newsStep
    have last : ∀ l : Int, 1 ≤ l → l ≤ ((k + 1 : Nat) : Int) → l ≤ k ∨ l = 1 + (k : Int) := fun l _ _ => by omega
    split
    · rename_i hl
      split
      · rename_i e
        refine ⟨(fun z => nomatch z), fun v e2 => ?_⟩
        cases e2
        refine ⟨⟨1 + k, by omega, by omega, hl, rfl⟩, fun l g1 g2 g3 => ?_⟩
        rcases last l g1 g2 with g | g
        · exact absurd g3 (h1 e l g1 g)
        · subst g; exact Int.le_refl _
      · rename_i a e
        obtain ⟨⟨l0, a1, a2, a3, a4⟩, a5⟩ := h2 a e
        split
        · rename_i hlt
          refine ⟨(fun z => nomatch z), fun v e2 => ?_⟩
          cases e2
          refine ⟨⟨1 + k, by omega, by omega, hl, rfl⟩, fun l g1 g2 g3 => ?_⟩
          rcases last l g1 g2 with g | g
          · have := a5 l g1 g g3; omega
          · subst g; exact Int.le_refl _
        · rename_i hlt
          refine ⟨(fun z => nomatch z), fun v e2 => ?_⟩
          cases e2
          refine ⟨⟨l0, a1, by omega, a3, a4⟩, fun l g1 g2 g3 => ?_⟩
          rcases last l g1 g2 with g | g
          · exact a5 l g1 g g3
          · subst g; omega
    · rename_i hl
      refine ⟨fun e l g1 g2 => ?_, fun v e => ?_⟩
      · rcases last l g1 g2 with g | g
        · exact h1 e l g1 g
        · subst g; exact hl
      · obtain ⟨⟨l0, a1, a2, a3, a4⟩, a5⟩ := h2 v e
        refine ⟨⟨l0, a1, by omega, a3, a4⟩, fun l g1 g2 g3 => ?_⟩
        rcases last l g1 g2 with g | g
        · exact a5 l g1 g g3
        · subst g; exact absurd g3 hl
/-- what the table's inner loop has gathered for a place -/
def someK (b : Bool) (news : Int → Option Int) (p : Int) : Nat → List Int
  | 0 => match news p with | none => [] | some v => [v]
  | k + 1 => match news (1 + (k : Int)) with
    | none => someK b news p k
    | some v => if (1 + (k : Int)) = p then someK b news p k else someK b news p k ++ [costOf b p (1 + (k : Int)) + v]
theorem someK_mem {b : Bool} {news : Int → Option Int} {p x : Int} : ∀ k : Nat, x ∈ someK b news p k ↔ news p = some x ∨ ∃ (l v : Int), 1 ≤ l ∧ l ≤ (k : Int) ∧ l ≠ p ∧ news l = some v ∧ x = costOf b p l + v
  | 0 => by
    unfold someK
    split
    · rename_i e
      constructor
      · intro h; cases h
      · rintro (h | ⟨l, v, h1, h2, _⟩)
        · rw [e] at h; cases h
        · omega
    · rename_i v e
      constructor
      · intro h; rw [List.mem_singleton.mp h]; exact .inl e
      · rintro (h | ⟨l, v, h1, h2, _⟩)
        · rw [e] at h; cases h; exact List.mem_singleton.mpr rfl
        · omega
  | k + 1 => by
    have ih := someK_mem (b := b) (news := news) (p := p) (x := x) k
    unfold someK
    have up : (∃ (l v : Int), 1 ≤ l ∧ l ≤ ((k + 1 : Nat) : Int) ∧ l ≠ p ∧ news l = some v ∧ x = costOf b p l + v) ↔ (∃ (l v : Int), 1 ≤ l ∧ l ≤ (k : Int) ∧ l ≠ p ∧ news l = some v ∧ x = costOf b p l + v) ∨ ∃ v, (1 + (k : Int)) ≠ p ∧ news (1 + (k : Int)) = some v ∧ x = costOf b p (1 + (k : Int)) + v := by
      constructor
      · rintro ⟨l, v, h1, h2, h3, h4, h5⟩
        by_cases g : l ≤ (k : Int)
        · exact .inl ⟨l, v, h1, g, h3, h4, h5⟩
        · have e : l = 1 + (k : Int) := by omega
          subst e
          exact .inr ⟨v, h3, h4, h5⟩
      · rintro (⟨l, v, h1, h2, h3, h4, h5⟩ | ⟨v, h3, h4, h5⟩)
        · exact ⟨l, v, h1, by omega, h3, h4, h5⟩
        · exact ⟨_, v, by omega, by omega, h3, h4, h5⟩
    rw [up]
    split
    · rename_i e
      rw [ih]
      constructor
      · rintro (h | h)
        · exact .inl h
        · exact .inr (.inl h)
      · rintro (h | h | ⟨v, _, h, _⟩)
        · exact .inl h
        · exact .inr h
        · rw [e] at h; cases h
    · rename_i v e
      split
      · rename_i ep
        rw [ih]
        constructor
        · rintro (h | h)
          · exact .inl h
          · exact .inr (.inl h)
        · rintro (h | h | ⟨v, h, _⟩)
          · exact .inl h
          · exact .inr h
          · exact absurd ep h
      · rename_i ep
        rw [List.mem_append, ih, List.mem_singleton]
        constructor
        · rintro ((h | h) | h)
          · exact .inl h
          · exact .inr (.inl h)
          · exact .inr (.inr ⟨v, ep, e, h⟩)
        · rintro (h | h | ⟨u, _, h, h2⟩)
          · exact .inl (.inl h)
          · exact .inl (.inr h)
          · rw [e] at h; cases h; exact .inr h2
def tabV (Bf : Int → Int → Int → Int) (b : Bool) (n : Nat) (lo hi p : Int) : Int := mnL (someK b (fun q => newsK Bf b lo hi q n) p n)
def bestK (b : Bool) (n : Nat) : Nat → Int → Int → Int → Int
  | 0, _, _, _ => 0
  | k + 1, lo, hi, p => if lo = hi then 0 else tabV (bestK b n k) b n lo hi p
theorem worst_congr {B1 B2 : Int → Int → Int → Int} {lo hi p l : Int} (h : ∀ c ∈ cutsOf lo hi p l, B1 c.1 c.2 l = B2 c.1 c.2 l) : worst B1 lo hi p l = worst B2 lo hi p l := by
  unfold worst
  congr 1
  exact List.map_congr_left h
theorem newsK_congr {B1 B2 : Int → Int → Int → Int} {b : Bool} {lo hi p : Int} (hle : lo ≤ hi) (h : ∀ a c q, lo ≤ a → a ≤ c → c ≤ hi → c - a < hi - lo → B1 a c q = B2 a c q) : ∀ k, newsK B1 b lo hi p k = newsK B2 b lo hi p k
  | 0 => rfl
  | k + 1 => by
    unfold newsK newsStep
    rw [newsK_congr hle h k]
    by_cases g : 1 < (cutsOf lo hi p (1 + (k : Int))).length
    · rw [if_pos g, if_pos g, worst_congr (B1 := B1) (B2 := B2)]
      intro c hc
      obtain ⟨h1, h2, h3⟩ := cuts_sub hle hc
      exact h _ _ _ h1 h2 h3 (cuts_lt hle g hc)
    · rw [if_neg g, if_neg g]
theorem tabV_congr {B1 B2 : Int → Int → Int → Int} {b : Bool} {n : Nat} {lo hi p : Int} (hle : lo ≤ hi) (h : ∀ a c q, lo ≤ a → a ≤ c → c ≤ hi → c - a < hi - lo → B1 a c q = B2 a c q) : tabV B1 b n lo hi p = tabV B2 b n lo hi p := by
  unfold tabV
  rw [show (fun q => newsK B1 b lo hi q n) = fun q => newsK B2 b lo hi q n from funext fun q => newsK_congr hle h n]
theorem bestK_eq {b : Bool} {n : Nat} : ∀ (k j : Nat) (lo hi p : Int), lo ≤ hi → hi - lo ≤ k → hi - lo ≤ j → bestK b n k lo hi p = bestK b n j lo hi p
  | 0, 0, _, _, _, _, _, _ => rfl
  | 0, j + 1, lo, hi, p, h, h1, h2 => by
    unfold bestK
    rw [if_pos (by omega)]
  | k + 1, 0, lo, hi, p, h, h1, h2 => by
    unfold bestK
    rw [if_pos (by omega)]
  | k + 1, j + 1, lo, hi, p, h, h1, h2 => by
    unfold bestK
    by_cases e : lo = hi
    · rw [if_pos e, if_pos e]
    · rw [if_neg e, if_neg e]
      exact tabV_congr h fun a c q g1 g2 g3 g4 => bestK_eq k j a c q g2 (by omega) (by omega)
/-- the least cost -/
def Bst (b : Bool) (n : Nat) (lo hi p : Int) : Int := bestK b n (hi - lo).toNat lo hi p
theorem Bst_one {b : Bool} {n : Nat} {lo p : Int} : Bst b n lo lo p = 0 := by
  unfold Bst
  rw [show (lo - lo).toNat = 0 by omega]; rfl
theorem Bst_eq {b : Bool} {n : Nat} {lo hi p : Int} (h : lo < hi) : Bst b n lo hi p = tabV (Bst b n) b n lo hi p := by
  obtain ⟨k, hk⟩ : ∃ k : Nat, (hi - lo).toNat = k + 1 := ⟨(hi - lo).toNat - 1, by omega⟩
  show bestK b n (hi - lo).toNat lo hi p = _
  rw [hk]
  show (if lo = hi then 0 else tabV (bestK b n k) b n lo hi p) = _
  rw [if_neg (by omega)]
  exact tabV_congr (by omega) fun a c q g1 g2 g3 g4 => bestK_eq k _ a c q g2 (by omega) (by omega)
def nws (b : Bool) (n : Nat) (lo hi p : Int) : Option Int := newsK (Bst b n) b lo hi p n
section
variable {b : Bool} {n : Nat} {lo hi p : Int}
theorem nws_some {v : Int} (e : nws b n lo hi p = some v) : (∃ l : Int, 1 ≤ l ∧ l ≤ (n : Int) ∧ 1 < (cutsOf lo hi p l).length ∧ v = costOf b p l + worst (Bst b n) lo hi p l) ∧ ∀ l : Int, 1 ≤ l → l ≤ (n : Int) → 1 < (cutsOf lo hi p l).length → v ≤ costOf b p l + worst (Bst b n) lo hi p l := (newsK_spec n).2 v e
theorem nws_lo (h1 : 1 ≤ lo) (h : lo < hi) (h2 : hi ≤ n) : ∃ v, nws b n lo hi lo = some v := by
  cases e : nws b n lo hi lo with
  | some v => exact ⟨v, rfl⟩
  | none =>
    have := (newsK_spec n).1 e (lo + 1) (by omega) (by omega)
    rw [cuts_step h] at this
    simp at this
theorem tab_mem (h1 : 1 ≤ lo) (h : lo < hi) (h2 : hi ≤ n) : nws b n lo hi p = some (Bst b n lo hi p) ∨ ∃ (l v : Int), 1 ≤ l ∧ l ≤ (n : Int) ∧ l ≠ p ∧ nws b n lo hi l = some v ∧ Bst b n lo hi p = costOf b p l + v := by
  rw [Bst_eq h]
  unfold tabV
  refine (someK_mem n).mp (mnL_mem fun e => ?_)
  obtain ⟨v, hv⟩ := nws_lo (b := b) h1 h h2
  by_cases g : lo = p
  · subst g
    have := (someK_mem (b := b) (news := nws b n lo hi) (p := lo) (x := v) n).mpr (.inl hv)
    rw [e] at this; cases this
  · have := (someK_mem (b := b) (news := nws b n lo hi) (p := p) (x := costOf b p lo + v) n).mpr (.inr ⟨lo, v, h1, by omega, g, hv, rfl⟩)
    rw [e] at this; cases this
theorem tab_le (h : lo < hi) {v : Int} (e : nws b n lo hi p = some v) : Bst b n lo hi p ≤ v := by
  rw [Bst_eq h]
  exact mnL_le ((someK_mem n).mpr (.inl e))
theorem tab_le2 (h : lo < hi) {l v : Int} (h1 : 1 ≤ l) (h2 : l ≤ n) (e : nws b n lo hi l = some v) : Bst b n lo hi p ≤ costOf b p l + v := by
  by_cases g : l = p
  · subst g
    have := tab_le h e
    have := cost_nn (b := b) (p := l) (l := l)
    omega
  · rw [Bst_eq h]
    exact mnL_le ((someK_mem n).mpr (.inr ⟨l, v, h1, h2, g, e, rfl⟩))
/-- going elsewhere first -/
theorem Bst_tri (h1 : 1 ≤ lo) (h : lo ≤ hi) (h2 : hi ≤ n) {l : Int} (g1 : 1 ≤ l) (g2 : l ≤ n) : Bst b n lo hi p ≤ costOf b p l + Bst b n lo hi l := by
  by_cases e : lo = hi
  · subst e
    rw [Bst_one, Bst_one]
    have := cost_nn (b := b) (p := p) (l := l)
    omega
  · have hlt : lo < hi := by omega
    rcases tab_mem (b := b) (p := l) h1 hlt h2 with q | ⟨m, v, m1, m2, m3, q, eq⟩
    · exact tab_le2 hlt g1 g2 q
    · have := tab_le2 (b := b) (p := p) hlt m1 m2 q
      have := cost_tri (b := b) (p := p) (q := l) (l := m)
      omega
/-- no move is better -/
theorem Bst_le (h1 : 1 ≤ lo) (h : lo < hi) (h2 : hi ≤ n) {l : Int} (g1 : 1 ≤ l) (g2 : l ≤ n) : Bst b n lo hi p ≤ costOf b p l + worst (Bst b n) lo hi p l := by
  by_cases g : 1 < (cutsOf lo hi p l).length
  · cases e : nws b n lo hi p with
    | none => exact absurd g ((newsK_spec n).1 e l g1 g2)
    | some v =>
      have := (nws_some e).2 l g1 g2 g
      have := tab_le h e
      omega
  · have e := cuts_one (by omega) g
    unfold worst
    rw [e]
    show _ ≤ _ + Bst b n lo hi l
    exact Bst_tri h1 (by omega) h2 g1 g2
theorem Bst_nn : ∀ (k : Nat) {lo hi p : Int}, 1 ≤ lo → lo ≤ hi → hi ≤ n → hi - lo ≤ k → 0 ≤ Bst b n lo hi p
  | k, lo, hi, p, h1, h, h2, hk => by
    by_cases e : lo = hi
    · subst e; rw [Bst_one]; exact Int.le_refl _
    · have hlt : lo < hi := by omega
      have nn : ∀ {q v}, nws b n lo hi q = some v → 0 ≤ v := fun {q v} e => by
        obtain ⟨⟨l, l1, l2, l3, rfl⟩, _⟩ := nws_some e
        obtain ⟨c, hc, ec⟩ := worst_at (Bf := Bst b n) (p := q) (l := l) h
        rw [ec]
        obtain ⟨c1, c2, c3⟩ := cuts_sub h hc
        have c4 := cuts_lt h l3 hc
        obtain ⟨k, rfl⟩ : ∃ j, k = j + 1 := ⟨k - 1, by omega⟩
        have := Bst_nn k (lo := c.1) (hi := c.2) (p := l) (by omega) c2 (by omega) (by omega)
        have := cost_nn (b := b) (p := q) (l := l)
        omega
      rcases tab_mem (b := b) (p := p) h1 hlt h2 with q | ⟨m, v, m1, m2, m3, q, eq⟩
      · exact nn q
      · have := nn q
        have := cost_nn (b := b) (p := p) (l := m)
        omega
theorem Bst_nn' (h1 : 1 ≤ lo) (h : lo ≤ hi) (h2 : hi ≤ n) : 0 ≤ Bst b n lo hi p := Bst_nn (hi - lo).toNat h1 h h2 (by omega)
/-- less open, no more wanted -/
theorem Bst_mono : ∀ (k : Nat) {lo hi lo' hi' p : Int}, 1 ≤ lo → lo ≤ lo' → lo' ≤ hi' → hi' ≤ hi → hi ≤ n → hi - lo ≤ k → 1 ≤ p → p ≤ n → Bst b n lo' hi' p ≤ Bst b n lo hi p
  | k, lo, hi, lo', hi', p, h1, g1, g2, g3, h2, hk, p1, p2 => by
    by_cases e : lo' = hi'
    · subst e; rw [Bst_one]; exact Bst_nn' h1 (by omega) h2
    · have hlt : lo < hi := by omega
      have hlt' : lo' < hi' := by omega
      have N : ∀ {q v : Int}, 1 ≤ q → q ≤ (n : Int) → nws b n lo hi q = some v → Bst b n lo' hi' q ≤ v := fun {q v} q1 q2 e => by
        obtain ⟨⟨l, l1, l2, l3, rfl⟩, _⟩ := nws_some e
        obtain ⟨k, rfl⟩ : ∃ j, k = j + 1 := ⟨k - 1, by omega⟩
        have := Bst_le (b := b) (p := q) (by omega) hlt' (by omega) l1 l2
        obtain ⟨c, hc, ec⟩ := worst_at (Bf := Bst b n) (lo := lo') (hi := hi') (p := q) (l := l) g2
        obtain ⟨d, hd, d1, d2⟩ := cuts_in g1 g2 g3 hc
        obtain ⟨c1, c2, c3⟩ := cuts_sub g2 hc
        obtain ⟨e1, e2, e3⟩ := cuts_sub (by omega) hd
        have e4 := cuts_lt (by omega) l3 hd
        have := Bst_mono k (lo := d.1) (hi := d.2) (lo' := c.1) (hi' := c.2) (p := l) (by omega) d1 c2 d2 (by omega) (by omega) l1 l2
        have := worst_le (Bf := Bst b n) hd
        omega
      rcases tab_mem (b := b) (p := p) h1 hlt h2 with q | ⟨m, v, m1, m2, m3, q, eq⟩
      · exact N p1 p2 q
      · have := N m1 m2 q
        have := Bst_tri (b := b) (p := p) (lo := lo') (hi := hi') (by omega) g2 (by omega) m1 m2
        omega
theorem Bst_mono' {lo' hi' : Int} (h1 : 1 ≤ lo) (g1 : lo ≤ lo') (g2 : lo' ≤ hi') (g3 : hi' ≤ hi) (h2 : hi ≤ n) (p1 : 1 ≤ p) (p2 : p ≤ n) : Bst b n lo' hi' p ≤ Bst b n lo hi p := Bst_mono (hi - lo).toNat h1 g1 g2 g3 h2 (by omega) p1 p2
/-- some other place is as good as told -/
theorem Bst_at (h1 : 1 ≤ lo) (h : lo < hi) (h2 : hi ≤ n) (p1 : 1 ≤ p) (p2 : p ≤ n) : ∃ l : Int, 1 ≤ l ∧ l ≤ (n : Int) ∧ l ≠ p ∧ costOf b p l + worst (Bst b n) lo hi p l = Bst b n lo hi p := by
  rcases tab_mem (b := b) (p := p) h1 h h2 with q | ⟨m, v, m1, m2, m3, q, eq⟩
  · obtain ⟨⟨l, l1, l2, l3, e⟩, _⟩ := nws_some q
    refine ⟨l, l1, l2, fun z => ?_, e.symm⟩
    subst z
    rw [cuts_self] at l3
    simp at l3
  · refine ⟨m, m1, m2, m3, ?_⟩
    have a := Bst_le (b := b) (p := p) h1 h h2 m1 m2
    obtain ⟨c, hc, ec⟩ := worst_at (Bf := Bst b n) (p := p) (l := m) (Int.le_of_lt h)
    obtain ⟨c1, c2, c3⟩ := cuts_sub (Int.le_of_lt h) hc
    have := Bst_mono' (b := b) (n := n) (lo := lo) (hi := hi) (lo' := c.1) (hi' := c.2) (p := m) h1 c1 c2 c3 h2 m1 m2
    have := tab_le h q
    omega
theorem Bst_pos (h1 : 1 ≤ lo) (h : lo < hi) (h2 : hi ≤ n) (p1 : 1 ≤ p) (p2 : p ≤ n) : 1 ≤ Bst b n lo hi p := by
  obtain ⟨l, l1, l2, l3, e⟩ := Bst_at (b := b) h1 h h2 p1 p2
  have := cost_pos (b := b) l3
  obtain ⟨c, hc, ec⟩ := worst_at (Bf := Bst b n) (p := p) (l := l) (Int.le_of_lt h)
  obtain ⟨c1, c2, c3⟩ := cuts_sub (Int.le_of_lt h) hc
  have := Bst_nn' (b := b) (n := n) (lo := c.1) (hi := c.2) (p := l) (by omega) c2 (by omega)
  omega
/-- from the low end, step by step -/
theorem Bst_walk : ∀ (k : Nat) {lo hi : Int}, 1 ≤ lo → lo ≤ hi → hi ≤ n → hi - lo ≤ k → Bst b n lo hi lo ≤ hi - lo
  | k, lo, hi, h1, h, h2, hk => by
    by_cases e : lo = hi
    · subst e; rw [Bst_one]; omega
    · have hlt : lo < hi := by omega
      obtain ⟨k, rfl⟩ : ∃ j, k = j + 1 := ⟨k - 1, by omega⟩
      have a := Bst_le (b := b) (p := lo) h1 hlt h2 (l := lo + 1) (by omega) (by omega)
      have c : costOf b lo (lo + 1) = 1 := by unfold costOf; split <;> omega
      have w : worst (Bst b n) lo hi lo (lo + 1) = max 0 (Bst b n (lo + 1) hi (lo + 1)) := by
        unfold worst
        rw [cuts_step hlt]
        show max (Bst b n lo lo (lo + 1)) (Bst b n (lo + 1) hi (lo + 1)) = _
        rw [Bst_one]
      have := Bst_walk k (lo := lo + 1) (hi := hi) (by omega) (by omega) h2 (by omega)
      omega
theorem Bst_bound (h1 : 1 ≤ lo) (h : lo ≤ hi) (h2 : hi ≤ n) (p1 : 1 ≤ p) (p2 : p ≤ n) : Bst b n lo hi p ≤ n + (hi - lo) := by
  have a := Bst_tri (b := b) (p := p) h1 h h2 h1 (by omega)
  have c := Bst_walk (b := b) (hi - lo).toNat h1 h h2 (by omega)
  have : costOf b p lo ≤ n := by unfold costOf; split <;> omega
  omega
/-- steps are no fewer than stands -/
theorem stands_le_steps : ∀ (k : Nat) {lo hi p : Int}, 1 ≤ lo → lo ≤ hi → hi ≤ n → 1 ≤ p → p ≤ n → Bst true n lo hi p ≤ k → Bst false n lo hi p ≤ Bst true n lo hi p
  | k, lo, hi, p, h1, h, h2, p1, p2, hk => by
    by_cases e : lo = hi
    · subst e; rw [Bst_one, Bst_one]; exact Int.le_refl _
    · have hlt : lo < hi := by omega
      obtain ⟨l, l1, l2, l3, e⟩ := Bst_at (b := true) h1 hlt h2 p1 p2
      have cp := cost_pos (b := true) l3
      have a := Bst_le (b := false) (p := p) h1 hlt h2 l1 l2
      obtain ⟨c, hc, ec⟩ := worst_at (Bf := Bst false n) (p := p) (l := l) h
      obtain ⟨c1, c2, c3⟩ := cuts_sub h hc
      have w := worst_le (Bf := Bst true n) hc
      have nn := Bst_nn' (b := true) (n := n) (lo := c.1) (hi := c.2) (p := l) (by omega) c2 (by omega)
      obtain ⟨k, rfl⟩ : ∃ j, k = j + 1 := ⟨k - 1, by omega⟩
      have := stands_le_steps k (lo := c.1) (hi := c.2) (p := l) (by omega) c2 (by omega) l1 l2 (by omega)
      have : costOf false p l = 1 := rfl
      omega
theorem cuts_mirror {p l : Int} {m : Int} {c : Int × Int} (hc : c ∈ cutsOf lo hi p l) : (m - c.2, m - c.1) ∈ cutsOf (m - hi) (m - lo) (m - p) (m - l) := by
  unfold cutsOf at hc ⊢
  by_cases e : p = l
  · rw [if_pos e] at hc
    rw [if_pos (by omega), List.mem_singleton.mp hc]
    exact List.mem_singleton.mpr rfl
  · rw [if_neg e] at hc
    rw [if_neg (by omega)]
    simp only [List.mem_append, List.mem_ite_nil_right, List.mem_singleton] at hc ⊢
    rcases hc with ⟨hc, rfl⟩ | ⟨hc, rfl⟩ | ⟨hc, rfl⟩
    · refine .inr (.inr ⟨by omega, ?_⟩)
      simp only [Prod.mk.injEq, and_true]
      omega
    · refine .inr (.inl ⟨by omega, ?_⟩)
      simp only [Prod.mk.injEq]
      omega
    · refine .inl ⟨by omega, ?_⟩
      simp only [Prod.mk.injEq, true_and]
      omega
theorem Bst_mir : ∀ (k : Nat) {lo hi p : Int}, 1 ≤ lo → lo ≤ hi → hi ≤ n → 1 ≤ p → p ≤ n → Bst b n (n + 1 - hi) (n + 1 - lo) (n + 1 - p) ≤ k → Bst b n lo hi p ≤ Bst b n (n + 1 - hi) (n + 1 - lo) (n + 1 - p)
  | k, lo, hi, p, h1, h, h2, p1, p2, hk => by
    by_cases e : lo = hi
    · subst e; rw [Bst_one, Bst_one]; exact Int.le_refl _
    · have hlt : lo < hi := by omega
      obtain ⟨l', l1, l2, l3, e⟩ := Bst_at (b := b) (n := n) (lo := n + 1 - hi) (hi := n + 1 - lo) (p := n + 1 - p) (by omega) (by omega) (by omega) (by omega) (by omega)
      have cp := cost_pos (b := b) l3
      have a := Bst_le (b := b) (p := p) h1 hlt h2 (l := n + 1 - l') (by omega) (by omega)
      obtain ⟨c, hc, ec⟩ := worst_at (Bf := Bst b n) (p := p) (l := n + 1 - l') h
      obtain ⟨c1, c2, c3⟩ := cuts_sub h hc
      have hm := cuts_mirror (m := n + 1) hc
      rw [show (n : Int) + 1 - (n + 1 - l') = l' by omega] at hm
      have w := worst_le (Bf := Bst b n) hm
      dsimp only at w
      have nn := Bst_nn' (b := b) (n := n) (lo := n + 1 - c.2) (hi := n + 1 - c.1) (p := l') (by omega) (by omega) (by omega)
      have ce : costOf b (n + 1 - p) l' = costOf b p (n + 1 - l') := by unfold costOf; split <;> omega
      obtain ⟨k, rfl⟩ : ∃ j, k = j + 1 := ⟨k - 1, by omega⟩
      have := Bst_mir k (lo := c.1) (hi := c.2) (p := n + 1 - l') (by omega) c2 (by omega) (by omega) (by omega) (by rw [show (n : Int) + 1 - (n + 1 - l') = l' by omega]; omega)
      rw [show (n : Int) + 1 - (n + 1 - l') = l' by omega] at this
      omega
/-- seen in a mirror all is alike -/
theorem Bst_mirror (h1 : 1 ≤ lo) (h : lo ≤ hi) (h2 : hi ≤ n) (p1 : 1 ≤ p) (p2 : p ≤ n) : Bst b n (n + 1 - hi) (n + 1 - lo) (n + 1 - p) = Bst b n lo hi p := by
  have nn := Bst_nn' (b := b) (n := n) (lo := n + 1 - hi) (hi := n + 1 - lo) (p := n + 1 - p) (by omega) (by omega) (by omega)
  have nn2 := Bst_nn' (b := b) (n := n) (lo := lo) (hi := hi) (p := p) h1 h h2
  have a := Bst_mir (b := b) (n := n) (Bst b n (n + 1 - hi) (n + 1 - lo) (n + 1 - p)).toNat h1 h h2 p1 p2 (by omega)
  have c := Bst_mir (b := b) (n := n) (Bst b n lo hi p).toNat (lo := n + 1 - hi) (hi := n + 1 - lo) (p := n + 1 - p) (by omega) (by omega) (by omega) (by omega) (by omega) (by
    rw [show (n : Int) + 1 - (n + 1 - lo) = lo by omega, show (n : Int) + 1 - (n + 1 - hi) = hi by omega, show (n : Int) + 1 - (n + 1 - p) = p by omega]; omega)
  rw [show (n : Int) + 1 - (n + 1 - lo) = lo by omega, show (n : Int) + 1 - (n + 1 - hi) = hi by omega, show (n : Int) + 1 - (n + 1 - p) = p by omega] at c
  omega
end
/-- whether so many stands are enough: to be reckoned -/
def enB (n : Nat) : Nat → Int → Int → Int → Bool
  | 0, lo, hi, _ => decide (lo = hi)
  | k + 1, lo, hi, p => decide (lo = hi) || (List.range n).any fun (i : Nat) => (cutsOf lo hi p (1 + (i : Int))).all fun c => enB n k c.1 c.2 (1 + (i : Int))
theorem enB_le {n : Nat} : ∀ (k : Nat) {lo hi p : Int}, 1 ≤ lo → lo ≤ hi → hi ≤ n → 1 ≤ p → p ≤ n → enB n k lo hi p = true → Bst false n lo hi p ≤ k
  | 0, lo, hi, p, h1, h, h2, p1, p2, e => by
    have e := of_decide_eq_true e
    subst e
    rw [Bst_one]; exact Int.le_refl _
  | k + 1, lo, hi, p, h1, h, h2, p1, p2, e => by
    unfold enB at e
    rw [Bool.or_eq_true] at e
    rcases e with e | e
    · have e := of_decide_eq_true e
      subst e
      rw [Bst_one]; omega
    · obtain ⟨i, hi1, hi2⟩ := List.any_eq_true.mp e
      have hin := List.mem_range.mp hi1
      by_cases e : lo = hi
      · subst e; rw [Bst_one]; omega
      · have a := Bst_le (b := false) (p := p) h1 (by omega) h2 (l := 1 + (i : Int)) (by omega) (by omega)
        obtain ⟨c, hc, ec⟩ := worst_at (Bf := Bst false n) (p := p) (l := 1 + (i : Int)) h
        obtain ⟨c1, c2, c3⟩ := cuts_sub h hc
        have := enB_le k (lo := c.1) (hi := c.2) (p := 1 + (i : Int)) (by omega) c2 (by omega) (by omega) (by omega) (List.all_eq_true.mp hi2 c hc)
        have : costOf false p (1 + (i : Int)) = 1 := rfl
        omega
theorem le_enB {n : Nat} : ∀ (k : Nat) {lo hi p : Int}, 1 ≤ lo → lo ≤ hi → hi ≤ n → 1 ≤ p → p ≤ n → Bst false n lo hi p ≤ k → enB n k lo hi p = true
  | 0, lo, hi, p, h1, h, h2, p1, p2, e => by
    refine decide_eq_true ?_
    by_cases g : lo = hi
    · exact g
    · have := Bst_pos (b := false) h1 (by omega) h2 p1 p2
      omega
  | k + 1, lo, hi, p, h1, h, h2, p1, p2, e => by
    unfold enB
    rw [Bool.or_eq_true]
    by_cases g : lo = hi
    · exact .inl (decide_eq_true g)
    · right
      obtain ⟨l, l1, l2, l3, el⟩ := Bst_at (b := false) h1 (by omega) h2 p1 p2
      refine List.any_eq_true.mpr ⟨(l - 1).toNat, List.mem_range.mpr (by omega), List.all_eq_true.mpr fun c hc => ?_⟩
      rw [show (1 + ((l - 1).toNat : Int)) = l by omega] at hc ⊢
      obtain ⟨c1, c2, c3⟩ := cuts_sub h hc
      have w := worst_le (Bf := Bst false n) hc
      have : costOf false p l = 1 := rfl
      exact le_enB k (by omega) c2 (by omega) l1 l2 (by omega)
end Wm

/-! where an exception is handled: iterators that end, targets of several names, comprehensions over lists. -/
namespace Wm
open PySem PySem.Spec PyProof.Rows L2
/-! ### the end of an iterator -/
/-- the exception that is handled: of an own class, its context None -/
def HotX (A : Around) (x1 : Addr) (h : Heap) : Prop := A.handled = some (.ref x1) ∧ ∃ (o : Obj) (vs : Array Value), h.get? x1 = some o ∧ (∃ C, o.cls = .ref C) ∧ o.data = .fields vs ∧ vs[2]? = some .none
section
variable {prog : Program} {w : World} {A : Around} {E : Value → Shared → Prop} {s : Shared}
theorem HotX.ne {x1 it : Addr} {h : Heap} {o : Obj} {n : String} (k : HotX A x1 h) (e : h.get? it = some o) (c : o.cls = .type n) : it ≠ x1 := fun z => by
  obtain ⟨_, o', _, h1, ⟨C, hC⟩, _⟩ := k
  rw [z, h1] at e
  cases e
  rw [hC] at c; cases c
theorem next_list_endX {it l x1 : Addr} {i : Nat} {items} {Q : Option Value → Shared → Prop} (hot : HotX A x1 s.heap)
    (hit : s.heap.IsListIter it l i) (hl : s.heap.IsList l items) (hx : items[i]? = none)
    (hQ : ∀ h', (∀ b o, b ≠ it → s.heap.get? b = some o → h'.get? b = some o) → Q none { s with heap := h' }) : wpAny (model prog w) A (pyNext (.ref it)) Q E s := by
  obtain ⟨o, ho, hc, hd⟩ := id hit
  have hne := hot.ne ho hc
  obtain ⟨hh, o1, vs1, h1, _, d1, c1⟩ := hot
  obtain ⟨ol, hol, _, nl, hdl⟩ := hl
  unfold pyNext
  refine wpAny_bind (wpAny_attempt (wpAny_callSpecial?_slot (name := Str.ofString "__next__") hit.typeIs slot_listiter_next
    (wpAny_call_entry slot_listiter_next hit.typeIs entry_listiter_next ?_ (args_listiter_next _))))
  show wpAny _ _ (field (.ref it) 0 >>= _) _ _ s
  refine wpAny_bind (wpAny_field ho hd (x := .ref l) rfl ?_)
  show wpAny _ _ (if (Value.ref l == Value.none) = true then _ else _) _ _ s
  rw [if_neg (show ¬ ((Value.ref l == Value.none) = true) from Bool.false_ne_true)]
  show wpAny _ _ (field (.ref it) 1 >>= _) _ _ s
  refine wpAny_bind (wpAny_field ho hd (x := .int i 0) rfl ?_)
  show wpAny _ _ (seqItems? (.ref l) >>= _) _ _ s
  refine wpAny_bind (wpAny_seqItems hol hdl ?_)
  simp only [Int.toNat_natCast, hx]
  refine wpAny_bind (wpAny_rule (wpAny_bind (wpAny_setField ho hd (by simp) ?_)))
  show wpAny _ _ (newExc (.type "StopIteration") [] >>= _) _ _ _
  refine wpAny_bind ?_
  simp only [newExc, newTuple]
  refine wpAny_bind (wpAny_newObj_type ?_ (by size_fits))
  refine wpAny_bind (m := firstArgMember _ _) (wpAny_of_eq (a := Value.none) (by first | rfl | (simp only [firstArgMember]; rfl)) ?_)
  refine wpAny_newObj_type ?_ (by size_fits)
  have k1 : ∀ b u, b ≠ it → s.heap.get? b = some u → (s.heap.update it (Obj.mapFields (·.setIfInBounds 0 Value.none))).get? b = some u := fun b u n e => by
    rw [Heap.get?_update_other _ _ (Ne.symm n)]; exact e
  refine HotX.raiseNew_hot ⟨hh, o1, vs1, Heap.get?_push_of_some _ (Heap.get?_push_of_some _ (k1 x1 o1 (Ne.symm hne) h1)), d1, c1⟩ (Nat.ne_of_lt (Heap.lt_size (Heap.get?_push_of_some _ (k1 x1 o1 (Ne.symm hne) h1)))) (Heap.get?_push_size _ rfl) rfl (by first | (simp; done) | (simp; omega) | (simp only [Array.size_append]; simp; omega)) ?_
  refine wpAny_bind (wpAny_isInstance (T := "StopIteration") (b := true) ⟨_, Heap.get?_update_self _ (Heap.get?_push_size _ rfl) rfl, rfl⟩ isSubtype_stop ?_)
  refine wpAny_pure (hQ _ fun b u n e => ?_)
  rw [Heap.get?_update_other _ _ (Nat.ne_of_gt (Heap.lt_size (Heap.get?_push_of_some _ (k1 b u n e))))]
  exact Heap.get?_push_of_some _ (Heap.get?_push_of_some _ (k1 b u n e))
theorem next_tuple_endX {it t x1 : Addr} {i : Nat} {items} {Q : Option Value → Shared → Prop} (hot : HotX A x1 s.heap)
    (hit : IsTupIter s.heap it t i) (ht : IsTup s.heap t items) (hx : items[i]? = none)
    (hQ : ∀ h', (∀ b o, b ≠ it → s.heap.get? b = some o → h'.get? b = some o) → Q none { s with heap := h' }) : wpAny (model prog w) A (pyNext (.ref it)) Q E s := by
  obtain ⟨o, ho, hc, hd⟩ := id hit
  have hne := hot.ne ho hc
  obtain ⟨hh, o1, vs1, h1, _, d1, c1⟩ := hot
  obtain ⟨ol, hol, _, nl, hdl⟩ := ht
  unfold pyNext
  refine wpAny_bind (wpAny_attempt (wpAny_callSpecial?_slot (name := Str.ofString "__next__") hit.typeIs slot_tupleiter_next
    (wpAny_call_entry slot_tupleiter_next hit.typeIs entry_tupleiter_next ?_ (args_tupleiter_next _))))
  show wpAny _ _ (field (.ref it) 0 >>= _) _ _ s
  refine wpAny_bind (wpAny_field ho hd (x := .ref t) rfl ?_)
  show wpAny _ _ (if (Value.ref t == Value.none) = true then _ else _) _ _ s
  rw [if_neg (show ¬ ((Value.ref t == Value.none) = true) from Bool.false_ne_true)]
  show wpAny _ _ (field (.ref it) 1 >>= _) _ _ s
  refine wpAny_bind (wpAny_field ho hd (x := .int i 0) rfl ?_)
  show wpAny _ _ (seqItems? (.ref t) >>= _) _ _ s
  refine wpAny_bind (wpAny_seqItems hol hdl ?_)
  simp only [Int.toNat_natCast, hx]
  refine wpAny_bind (wpAny_rule (wpAny_bind (wpAny_setField ho hd (by simp) ?_)))
  show wpAny _ _ (newExc (.type "StopIteration") [] >>= _) _ _ _
  refine wpAny_bind ?_
  simp only [newExc, newTuple]
  refine wpAny_bind (wpAny_newObj_type ?_ (by size_fits))
  refine wpAny_bind (m := firstArgMember _ _) (wpAny_of_eq (a := Value.none) (by first | rfl | (simp only [firstArgMember]; rfl)) ?_)
  refine wpAny_newObj_type ?_ (by size_fits)
  have k1 : ∀ b u, b ≠ it → s.heap.get? b = some u → (s.heap.update it (Obj.mapFields (·.setIfInBounds 0 Value.none))).get? b = some u := fun b u n e => by
    rw [Heap.get?_update_other _ _ (Ne.symm n)]; exact e
  refine HotX.raiseNew_hot ⟨hh, o1, vs1, Heap.get?_push_of_some _ (Heap.get?_push_of_some _ (k1 x1 o1 (Ne.symm hne) h1)), d1, c1⟩ (Nat.ne_of_lt (Heap.lt_size (Heap.get?_push_of_some _ (k1 x1 o1 (Ne.symm hne) h1)))) (Heap.get?_push_size _ rfl) rfl (by first | (simp; done) | (simp; omega) | (simp only [Array.size_append]; simp; omega)) ?_
  refine wpAny_bind (wpAny_isInstance (T := "StopIteration") (b := true) ⟨_, Heap.get?_update_self _ (Heap.get?_push_size _ rfl) rfl, rfl⟩ isSubtype_stop ?_)
  refine wpAny_pure (hQ _ fun b u n e => ?_)
  rw [Heap.get?_update_other _ _ (Nat.ne_of_gt (Heap.lt_size (Heap.get?_push_of_some _ (k1 b u n e))))]
  exact Heap.get?_push_of_some _ (Heap.get?_push_of_some _ (k1 b u n e))
theorem unpackItems_tupleX {t x1 : Addr} {items : Array Value} {Q : List Value → Shared → Prop} (hot : HotX A x1 s.heap) (ht : IsTup s.heap t items)
    (hQ : ∀ h', Heap.ExtBut s.heap.objs.size s.heap h' → Q items.toList { s with heap := h' }) : wpAny (model prog w) A (unpackItems (.ref t) items.size none) Q E s := by
  have hlt : t ≠ s.heap.objs.size := by obtain ⟨o, ho, _⟩ := ht; exact Nat.ne_of_lt (Heap.lt_size ho)
  have hx1 : x1 ≠ s.heap.objs.size := by obtain ⟨_, o, _, ho, _⟩ := hot; exact Nat.ne_of_lt (Heap.lt_size ho)
  unfold unpackItems
  refine wpAny_bind ?_
  · unfold notIterableAtAll
    refine wpAny_bind (wpAny_specialOf ht.typeIs slot_tuple_iter.lookup ?_)
    refine wpAny_pure ?_
    simp only [Bool.false_eq_true, if_false]
    refine wpAny_bind (wpAny_holding (iter_tuple ht ?_))
    refine wpAny_bind (wpAny_holding (draw_tuple hlt items.size 0 _ _ ⟨_, Heap.get?_push_size _ rfl, rfl, rfl⟩ (ht.push _) (by omega) fun h₁ hit₁ hs₁ => ?_))
    have hall : List.take items.size (List.drop 0 items.toList) = items.toList := by
      rw [List.drop_zero]; exact List.take_of_length_le (by simp)
    rw [hall]
    rw [if_neg (by simp)]
    have ht₁ : IsTup h₁ t items := (ht.push _).extBut hs₁.extBut hlt
    have hot₁ : HotX A x1 h₁ := by
      obtain ⟨hh, o, vs, ho, r⟩ := hot
      exact ⟨hh, o, vs, hs₁.extBut x1 o hx1 (Heap.get?_push_of_some _ ho), r⟩
    refine wpAny_bind (wpAny_holding (next_tuple_endX hot₁ hit₁ ht₁ (by simp) fun h₂ he₂ => ?_))
    simp only [Option.isSome_none, Bool.false_eq_true, if_false]
    refine wpAny_pure (hQ h₂ fun b o hb e => he₂ b o hb (hs₁.extBut b o hb (Heap.get?_push_of_some _ e)))
theorem assign_Tuple_tupleX {env : Env} {elts : List Expr} {x1 : Addr} {k} {pos : Pos} {t : Addr} {items : Array Value} {Q : Unit → Shared → Prop} (hot : HotX A x1 s.heap) (ht : IsTup s.heap t items)
    (hn : (assignEach elts env).length = items.size) (hstar : (assignEach elts env).findIdx? (·.1) = none)
    (h : ∀ h', Heap.ExtBut s.heap.objs.size s.heap h' → wpAny (model prog w) A (assignInOrder ((assignEach elts env).map (·.2)) items.toList) Q E { s with heap := h' }) :
    wpAny (model prog w) A (assign (.Tuple elts k pos) env (.ref t)) Q E s := by
  rw [assign_Tuple]
  refine wpAny_bind (wpAny_standAt ?_)
  unfold unpack
  rw [hn, hstar]
  exact wpAny_bind (wpAny_holding (unpackItems_tupleX hot ht h))
end
/-- at every state of X the exception at x1 is handled -/
def HotB (X : Cx) (x1 : Addr) : Prop := ∀ pins σ H s, Inv X pins σ H s → HotX X.A x1 s.heap
/-- .. as an except suite has it -/
structure HotK (X : Cx) (x1 : Addr) (oe : Obj) : Prop where
  hd : X.A.handled = some (.ref x1)
  cls : ∃ C, oe.cls = .ref C
  dat : ∃ vs : Array Value, oe.data = .fields vs ∧ vs[2]? = some .none
  pin : (x1, oe) ∈ X.pn
theorem HotK.hot {X : Cx} {x1 : Addr} {oe : Obj} (k : HotK X x1 oe) {h : Heap} (e : h.get? x1 = some oe) : HotX X.A x1 h := by
  obtain ⟨vs, d1, d2⟩ := k.dat
  exact ⟨k.hd, oe, vs, e, k.cls, d1, d2⟩
theorem HotK.at {X : Cx} {x1 : Addr} {oe : Obj} (k : HotK X x1 oe) {pins : List (Addr × Obj)} {σ : L2.St} {H : Hp} {s : Shared} (I : Inv X pins σ H s) : s.heap.get? x1 = some oe ∧ H x1 = none ∧ x1 ∉ frs X.stack := by
  obtain ⟨h1, h2, h3, h4, _⟩ := I.pin (x1, oe) (List.mem_append_left _ k.pin)
  refine ⟨h1, h2, fun z => ?_⟩
  rcases List.mem_cons.mp (I.stkSub _ z) with e | e
  · exact h3 e
  · exact h4 e
theorem HotK.b {X : Cx} {x1 : Addr} {oe : Obj} (k : HotK X x1 oe) : HotB X x1 := fun _ _ _ _ I => k.hot (k.at I).1
theorem hotK_suite {X : Cx} {a C : Addr} {oe : Obj} {d : Option Addr} {pn : List (Addr × Obj)} (hz : L2N.Zn (.ref C) d oe) (hf : ∃ vs, oe.data = .fields vs) : HotK (X.suite a ((a, oe) :: pn)) a oe := by
  obtain ⟨vs, hv⟩ := hf
  exact ⟨rfl, ⟨C, hz.1⟩, ⟨vs, hv, hz.2.2 vs hv⟩, List.mem_cons_self⟩
section
variable {X : Cx}
theorem pg_tupX {x1 : Addr} {es : List Expr} {k : Nat} {pos : Pos} {t : TGs} {n : Nat} (hot : HotB X x1) (h : PGs X es t)
    (hn : (assignEach es X.env).length = n := by rfl) (hst : (assignEach es X.env).findIdx? (·.1) = none := by rfl) : PG X (.Tuple es k pos) (gTup X.K n t) := by
  refine ⟨fun pins s σ H v u Q I r hw => ?_⟩
  obtain ⟨a, xs, e1, hq, hl, hw⟩ := hw
  subst e1
  cases r
  obtain ⟨its, rv, ht, hz⟩ := I.tuple hq
  refine assign_Tuple_tupleX (hot _ _ _ _ I) ht (by simp [hn, ← hl, rv.length]) hst fun h' hx => ?_
  have I1 : Inv X pins σ H { s with heap := h' } := I.kept (t' := s.toks) fun b o e => hx b o (Nat.ne_of_lt (Heap.lt_size e)) e
  exact h.run pins _ σ H xs _ Q I1 (by simpa using rv) hw
end
/-! ### walks -/
structure TurnX (P : Program) (w : World) (K : PySem.W.Frag) (tg : Expr) (J : It) (fp : List Addr) (it : Addr) (tn : Nat → Heap → Prop) : Prop where
  mem : it ∈ fp
  obj : ∀ i h, tn i h → ∀ b ∈ fp, ∃ o, h.get? b = some o ∧ ∀ v, o.data ≠ .cell v
  keep : ∀ i h h', tn i h → (∀ b ∈ fp, ∀ o, h.get? b = some o → h'.get? b = some o) → tn i h'
  item : ∀ (X : Cx), X.prog = P → X.w = w → X.K = K → ∀ {x1 : Addr} (i : Nat) (pins : List (Addr × Obj)) (s : Shared) (σ : L2.St) (H : Hp) (E : Value → Shared → Prop), HotX X.A x1 s.heap → Inv X pins σ H s → (∀ b ∈ fp, FpOk X pins H b) → tn i s.heap → J.go i H →
    wpAny (model P w) X.A (pyNext (.ref it)) (fun r s1 => ∃ u, r = some u ∧
      wpAny (model P w) X.A (letOwnedTupleGo tg (.ref it) u) (fun _ s2 => ∃ x H', Inv X pins σ H' s2 ∧ RelV x u ∧ J.yld i H x H' ∧ tn (i + 1) s2.heap ∧ ∀ b ∈ fp, H' b = none) E s1) E s
  done : ∀ (X : Cx), X.prog = P → X.w = w → X.K = K → ∀ {x1 : Addr} (i : Nat) (pins : List (Addr × Obj)) (s : Shared) (σ : L2.St) (H : Hp) (E : Value → Shared → Prop), HotX X.A x1 s.heap → Inv X pins σ H s → (∀ b ∈ fp, FpOk X pins H b) → tn i s.heap → J.stop i H →
    wpAny (model P w) X.A (pyNext (.ref it)) (fun r s1 => r = none ∧ Inv X pins σ H s1) E s
  self : ∀ (A : Around) (i : Nat) (s : Shared) (Q : Value → Shared → Prop) (E : Value → Shared → Prop), tn i s.heap → Q (.ref it) s → wpAny (model P w) A (pyIter (.ref it)) Q E s
theorem turn_listX {P : Program} {w : World} {K : PySem.W.Frag} {tg : Expr} (a it : Addr) : TurnX P w K tg (Itl K a) [it] it (fun i h => h.IsListIter it a i) where
  mem := by simp
  obj := fun i h st b hb => by
    have e : b = it := by simpa using hb
    subst e
    obtain ⟨o, e, c, d⟩ := st
    exact ⟨o, e, fun v z => by rw [d] at z; cases z⟩
  keep := fun i h h' st k => st.at fun o e => k it (by simp) o e
  item := by
    intro X hP hw hK x1 i pins s σ H E hot I hf st hg
    subst hP hw hK
    obtain ⟨xs, x, hq, hx⟩ := hg
    obtain ⟨its, rv, p, hz⟩ := I.list hq
    obtain ⟨u, hu, ru⟩ := rv.get hx
    obtain ⟨f0, f1, f2, f3, f4, f5⟩ := hf it (by simp)
    refine wpAny_pyNext_list_item st p.isList (x := u) (by simpa using hu) fun h' st' sb => ?_
    have I1 : Inv X pins σ H { s with heap := h' } := I.turned (t' := s.toks) (fun b o hb e => (sb.2 b hb).trans e) f0 f1 f3 f4 f5
    obtain ⟨o, e, c, d⟩ := id st'
    exact ⟨u, rfl, go_of (s := { s with heap := h' }) e c d (by decide) ⟨x, H, I1, ru, ⟨rfl, fun ys hy => by rw [I.list_inj hy hq]; exact hx⟩, st', fun b hb => (hf b hb).1⟩⟩
  done := by
    intro X hP hw hK x1 i pins s σ H E hot I hf st hg
    subst hP hw hK
    obtain ⟨xs, hq, hx⟩ := hg
    obtain ⟨its, rv, p, hz⟩ := I.list hq
    obtain ⟨f0, f1, f2, f3, f4, f5⟩ := hf it (by simp)
    have hl := rv.length
    exact next_list_endX hot st p.isList (by simp; omega) fun h' eb => ⟨rfl, I.turned (t' := s.toks) (fun b o hb e => eb b o hb e) f0 f1 f3 f4 f5⟩
  self := fun _ _ _ _ _ st h => wpAny_pyIter_listiter st h
def PIEX (X : Cx) (pins : List (Addr × Obj)) (σ : L2.St) (tg : Expr) (R : It → Hp → Prop) (itv : Value) (s2 : Shared) : Prop :=
  ∃ (it : Addr) (fp : List Addr) (tn : Nat → Heap → Prop) (J : It) (H' : Hp), itv = .ref it ∧ Inv X pins σ H' s2 ∧ TurnX X.prog X.w X.K tg J fp it tn ∧ tn 0 s2.heap ∧ (∀ b ∈ fp, FpOk X pins H' b) ∧ R J H'
structure PIX (X : Cx) (tg iter : Expr) (wi : TI) : Prop where
  run : ∀ (pins : List (Addr × Obj)) (s : Shared) (σ : L2.St) (H : Hp) (R : It → Hp → Prop), Inv X pins σ H s → wi σ H R →
    wpAny (model X.prog X.w) X.A (eval iter X.env) (fun v s1 => wpAny (model X.prog X.w) X.A (pyIter v) (PIEX X pins σ tg R) X.xe s1) X.xe s
section
variable {X : Cx} {tg : Expr}
theorem pi_listX {l : Expr} {tl : TE} (hl : PE X l tl) : PIX X tg l (iList X.K tl) := by
  refine ⟨fun pins s σ H R I h => ?_⟩
  refine thn (hl.run pins s σ H _ I h) fun v s1 ⟨x, H1, I1, r1, q1⟩ => ?_
  obtain ⟨a, e, ⟨xs, hq⟩, q⟩ := q1
  subst e
  cases r1
  obtain ⟨its, rv, p, hz⟩ := I1.list hq
  refine wpAny_pyIter_list p.isList ?_
  refine ⟨s1.heap.objs.size, [s1.heap.objs.size], _, _, H1, rfl, I1.kept (t' := s1.toks) fun b o e => Heap.get?_push_of_some _ e, turn_listX a _, ⟨_, Heap.get?_push_size _ rfl, rfl, rfl⟩, fun b hb => ?_, q⟩
  have e : b = s1.heap.objs.size := by simpa using hb
  subst e
  exact I1.fpOk (Nat.le_refl _) (I1.hok.fresh (Nat.le_refl _))
theorem lc_coreX {x1 : Addr} {oe : Obj} {pins : List (Addr × Obj)} {s : Shared} {σ : L2.St} {H : Hp} {Q : VK} {elt tg iter : Expr} {ifs : List Expr} {scope : Scope} {own : List (Str × Nat)} {pos pos' : Pos} {wi : TI} {g : TG} {tt : TT} {te : TE} {use : Option (Value → Sem Unit)} {Qf : Value → Shared → Prop}
    (hk : HotK X x1 oe) (hN : X.N.Nodup) (I : Inv X pins σ H s) (hi : PIX X tg iter wi) (ok : BlkOk X.N X.env.scope scope own)
    (hg : ∀ (s : Shared) (H : Hp) (C : Addr) (cl : List (Str × Addr)) (fp : List Addr), HotB (X.blk s H scope (compEnvC scope cl C X.env) fp) x1 → PG (X.blk s H scope (compEnvC scope cl C X.env) fp) tg g) (ht : ∀ (s : Shared) (H : Hp) (C : Addr) (cl : List (Str × Addr)) (fp : List Addr), PTs (X.blk s H scope (compEnvC scope cl C X.env) fp) ifs tt)
    (he : ∀ (s : Shared) (H : Hp) (C : Addr) (cl : List (Str × Addr)) (fp : List Addr), PE (X.blk s H scope (compEnvC scope cl C X.env) fp) elt te) (hs : ∀ x, foldedSetIterable iter X.env x = pure x)
    (h : tLc wi g tt te (own.map (·.2)) σ H Q)
    (hRR : ∀ D C s' m H', Inv X pins σ H' s' → Q (.ref D) H' → s'.heap.Ns C m → FpOk X pins H' C → compPost (model X.prog X.w) X.A X.xe use Qf (.ref D) C (.ok .next) s') :
    wpAny (model X.prog X.w) X.A (comprehension (.ListComp elt [⟨tg, iter, ifs, 0⟩] scope pos) scope X.env pos' (newList []) false (eval iter X.env) use) Qf X.xe s := by
  have hfree : ∀ y ∈ scope.names, y.2 = .free → ∃ c, X.env.cells.lookup y.1 = some c := fun y hy e => by
    rcases ok.free y hy e with k | k
    · exact I.ok.has _ (.inl k)
    · exact I.ok.has _ (.inr k)
  refine wpAny_comprehension_free (use := use) rfl hs (closure_ok hfree) ok.kind (fun y hy e => by rw [ok.uniq y hy, e])
    (thn (hi.run pins s σ H _ I h) fun xv s1 hx => thn hx fun itv s2 h2 => ?_)
  obtain ⟨it, fp, tn, J, H2, e, I2, T, st2, f2, q⟩ := h2
  subst e
  refine wpAny_newObj_type (newEnv_comp ?_) (by show 0 ≤ sizeLine; decide)
  generalize hD : s2.heap.objs.size = D
  have hDn : H2 D = none := I2.hok.fresh (Nat.le_of_eq hD)
  obtain ⟨W, ⟨m0, w0⟩, turn⟩ := q D hDn
  -- the new list
  generalize hs3 : ({ s2 with heap := s2.heap.push { cls := .type "list", data := .seq ([] : List Value).toArray } } : Shared) = s3
  have I3 : Inv X pins σ (upd H2 D (.lst [])) s3 := by
    rw [← hs3]
    refine I2.laid (t' := s2.toks) (fun b o e => Heap.get?_push_of_some _ e) (Nat.le_of_eq hD) ⟨Nat.zero_le _, [], 0, .nil, ?_⟩
    rw [← hD]
    exact Heap.get?_push_size _ rfl
  have h3 : s3.heap = s2.heap.push { cls := .type "list", data := .seq ([] : List Value).toArray } := by rw [← hs3]
  have sz : ∀ b ∈ fp, b < s2.heap.objs.size := fun b hb => by
    obtain ⟨o, e, _⟩ := T.obj _ _ st2 b hb
    exact Heap.lt_size e
  have f3 : ∀ b ∈ fp, FpOk X pins (upd H2 D (.lst [])) b ∧ b < s3.heap.objs.size := fun b hb => by
    have hlt := sz b hb
    refine ⟨⟨?_, (f2 b hb).2⟩, by rw [h3, Heap.size_push]; exact Nat.lt_succ_of_lt hlt⟩
    rw [upd_ne (by rw [← hD]; exact Nat.ne_of_lt hlt)]
    exact (f2 b hb).1
  have st3 : tn 0 s3.heap := T.keep _ _ _ st2 fun b _ o e => by rw [h3]; exact Heap.get?_push_of_some _ e
  have I4 := block_start I3 ok hN f3
  have hx3 := hk.at I3
  have hotB : HotB (X.blk s3 (upd H2 D (.lst [])) scope (compEnvC scope (cellsFrom (s3.heap.objs.size + 1) scope.names (cloFrom X.env.cells scope.names [])) s3.heap.objs.size X.env) fp) x1 := fun pins' σ' H' s' I' => by
    have e := I'.base.keep x1 oe hx3.1 hx3.2.1 hx3.2.2 (fun z => (f2 x1 z).2.2.2.2.2 (x1, oe) (List.mem_append_left _ hk.pin) rfl)
    exact hk.hot e
  have pg := hg s3 (upd H2 D (.lst [])) s3.heap.objs.size (cellsFrom (s3.heap.objs.size + 1) scope.names (cloFrom X.env.cells scope.names [])) fp hotB
  have pt := ht s3 (upd H2 D (.lst [])) s3.heap.objs.size (cellsFrom (s3.heap.objs.size + 1) scope.names (cloFrom X.env.cells scope.names [])) fp
  have pe := he s3 (upd H2 D (.lst [])) s3.heap.objs.size (cellsFrom (s3.heap.objs.size + 1) scope.names (cloFrom X.env.cells scope.names [])) fp
  show codeAny _ _ (.compStart (.ListComp elt [⟨tg, iter, ifs, 0⟩] scope pos) 0 (.ref it) (.ref D) (compEnvC scope (cellsFrom (s3.heap.objs.size + 1) scope.names (cloFrom X.env.cells scope.names [])) s3.heap.objs.size X.env)) (compPost (model X.prog X.w) X.A X.xe use Qf (.ref D) s3.heap.objs.size) { s3 with heap := pushCells (s3.heap.push { cls := .type "dict", data := .dict #[] }) scope.names }
  have nfp : ∀ b ∈ fp, (upd H2 D (.lst [])) b = none := fun b hb => (f3 b hb).1.1
  generalize hce : compEnvC scope (cellsFrom (s3.heap.objs.size + 1) scope.names (cloFrom X.env.cells scope.names [])) s3.heap.objs.size X.env = ce at I4 pg pt pe hotB ⊢
  have cL : ce.locals = s3.heap.objs.size := by subst hce; rfl
  generalize hH3 : upd H2 D (.lst []) = H3 at I3 I4 pg pt pe w0 nfp f3 hx3 hotB
  generalize hs4 : ({ s3 with heap := pushCells (s3.heap.push { cls := .type "dict", data := .dict #[] }) scope.names } : Shared) = s4 at I4 ⊢
  have st4 : tn 0 s4.heap := T.keep _ _ _ st3 fun b _ o e => by rw [← hs4]; exact pushCells_keeps _ _ _ _ (Heap.get?_push_of_some _ e)
  have stat : ∀ {σ' : L2.St} {H' : Hp} {s' : Shared}, Inv (X.blk s3 H3 scope ce fp) [] σ' H' s' → (∀ b ∈ fp, H' b = none) → ∀ b ∈ fp, FpOk (X.blk s3 H3 scope ce fp) [] H' b := fun {σ' H' s'} I' hn b hb =>
    ⟨hn b hb, (I'.ok.exf b hb).1, I'.ok.exfs b hb, .inl hb, fun x c e => (I'.ok.exf b hb).2 x c e, fun p hp => absurd (show p ∈ ([] : List (Addr × Obj)) ++ [] from hp) (by simp)⟩
  have loop : codeAny (model X.prog X.w) X.A (.compLoop (.ListComp elt [⟨tg, iter, ifs, 0⟩] scope pos) 0 (.ref it) (.ref D) ce) (compPost (model X.prog X.w) X.A X.xe use Qf (.ref D) s3.heap.objs.size) s4 := by
    refine compLoop_any (fun n s' => ∃ i H', Inv (X.blk s3 H3 scope ce fp) [] (wipe σ (own.map (·.2))) H' s' ∧ tn i s'.heap ∧ (∀ b ∈ fp, H' b = none) ∧ W i n H') ?_ m0 ⟨0, H3, I4, st4, nfp, w0⟩
    rintro n s5 ⟨i, H5, I5, st5, n5, w5⟩
    rcases turn i n H5 w5 with ⟨stop, qq⟩ | ⟨go, Nx, hNx, step⟩
    · have td := T.done (X.blk s3 H3 scope ce fp) rfl rfl rfl i [] s5 _ H5 (fun _ _ => False) (hotB _ _ _ _ I5) I5 (stat I5 n5) st5 stop
      refine thnF td fun r s6 ⟨hr, I6⟩ => ?_
      subst hr
      -- back in the def's context
      have I7 : Inv X pins σ H5 s6 := I3.call' (ch := fp) I6.os I6.base I6.hok I6.bare fun b hb => ⟨(f3 b hb).1.2.2.2.1, (f3 b hb).1.2.1, (f3 b hb).1.2.2.2.2.1, (f3 b hb).1.2.2.2.2.2⟩
      have nC : H5 s3.heap.objs.size = none := by
        have z : H5 ce.locals = none := I6.free
        rw [cL] at z
        exact z
      obtain ⟨m, hn, _⟩ := I6.loc
      have hn : s6.heap.Ns ce.locals m := hn
      rw [cL] at hn
      exact hRR D s3.heap.objs.size s6 m H5 I7 qq hn (I3.fpOk (Nat.le_refl _) nC)
    · have ti := T.item (X.blk s3 H3 scope ce fp) rfl rfl rfl i [] s5 _ H5 (fun _ _ => False) (hotB _ _ _ _ I5) I5 (stat I5 n5) st5 go
      refine thnF ti fun r s6 ⟨u, hr, h6⟩ => ?_
      subst hr
      refine thnF h6 fun _ s7 ⟨x, H7, I7, r7, y7, st7, n7⟩ => ?_
      have I7' := I7.pinned (stat I7 n7) (T.obj _ _ st7)
      refine thnF (pg.run _ s7 _ H7 x u _ I7' r7 (step x H7 y7)) fun _ s8 ⟨σ8, H8, I8, hw8, q8⟩ => ?_
      refine thnF (pt.run _ s8 σ8 H8 _ I8 q8) fun b s9 ⟨H9, I9, q9⟩ => ?_
      -- the turn's end
      have fin : ∀ {s' : Shared} {H' : Hp}, Inv (X.blk s3 H3 scope ce fp) ([] ++ pinsAt fp s7.heap) σ8 H' s' → Nx H' → ∃ m, m < n ∧ ∃ i H', Inv (X.blk s3 H3 scope ce fp) [] (wipe σ (own.map (·.2))) H' s' ∧ tn i s'.heap ∧ (∀ b ∈ fp, H' b = none) ∧ W i m H' := fun {s' H'} I' nx => by
        obtain ⟨m', hm, w'⟩ := hNx H' nx
        have pin' : ∀ b ∈ fp, ∀ o, s7.heap.get? b = some o → s'.heap.get? b = some o ∧ H' b = none := fun b hb o e =>
          let z := I'.pin (b, o) (List.mem_append_right _ (List.mem_append_right _ (mem_pinsAt hb e)))
          ⟨z.1, z.2.1⟩
        have hl : (wipe σ (own.map (·.2))).length = σ8.length := by rw [← hw8, wipe_length]
        refine ⟨m', hm, i + 1, H', (I'.unpinned (pins := [])).weak hl (fun j v e => ?_), T.keep _ _ _ st7 fun b hb o e => (pin' b hb o e).1, fun b hb => ?_, w'⟩
        · rw [← hw8] at e
          exact (wipe_some e).1
        · obtain ⟨o, e, _⟩ := T.obj _ _ st7 b hb
          exact (pin' b hb o e).2
      cases b with
      | false =>
        simp only [Bool.false_eq_true, if_false] at q9 ⊢
        exact fin I9 q9
      | true =>
        simp only [if_true] at q9 ⊢
        refine thnF (pe.run _ s9 σ8 H9 _ I9 q9) fun z s10 ⟨yv, H10, I10, r10, acc, hD10, hz10, nx⟩ => ?_
        exact app_ok (X := X.blk s3 H3 scope ce fp) I10 hD10 hz10 r10 fun s11 I11 => fin I11 nx
  exact codeAny_compStart_list loop (T.self X.A 0 _ _ _ st4 loop)
/-- as a value -/
theorem pe_lcX {x1 : Addr} {oe : Obj} {elt tg iter : Expr} {ifs : List Expr} {scope : Scope} {own : List (Str × Nat)} {pos : Pos} {wi : TI} {g : TG} {tt : TT} {te : TE} (hk : HotK X x1 oe) (hN : X.N.Nodup) (hi : PIX X tg iter wi) (ok : BlkOk X.N X.env.scope scope own)
    (hg : ∀ (s : Shared) (H : Hp) (C : Addr) (cl : List (Str × Addr)) (fp : List Addr), HotB (X.blk s H scope (compEnvC scope cl C X.env) fp) x1 → PG (X.blk s H scope (compEnvC scope cl C X.env) fp) tg g) (ht : ∀ (s : Shared) (H : Hp) (C : Addr) (cl : List (Str × Addr)) (fp : List Addr), PTs (X.blk s H scope (compEnvC scope cl C X.env) fp) ifs tt)
    (he : ∀ (s : Shared) (H : Hp) (C : Addr) (cl : List (Str × Addr)) (fp : List Addr), PE (X.blk s H scope (compEnvC scope cl C X.env) fp) elt te) (hs : ∀ x, foldedSetIterable iter X.env x = pure x := by intro _; rfl) :
    PE X (.ListComp elt [⟨tg, iter, ifs, 0⟩] scope pos) (tLc wi g tt te (own.map (·.2))) := by
  refine ⟨fun pins s σ H Q I h => ?_⟩
  rw [eval_ListComp]
  refine lc_coreX hk hN I hi ok hg ht he hs h fun D C s' m H' I' q hn f => ⟨m, hn, fun h'' sb => ?_⟩
  obtain ⟨f0, f1, f2, f3, f4, f5⟩ := f
  exact ⟨.ref D, H', I'.turned (t' := s'.toks) (fun b o hb e => (sb.2 b hb).trans e) f0 f1 f3 f4 f5, rfl, q⟩
end
end Wm

/-! several clauses, each with a name; defs that raise, told over data. -/
namespace L2N
open PySem PySem.Spec PyProof.Rows L2
/-- behind a suite its name is gone -/
abbrev endsN (D : Ends) (i : Nat) : Ends := { nx := fun σ' H' => D.nx (σ'.set i none) H', rt := D.rt, bk := fun σ' H' => D.bk (σ'.set i none) H', ct := fun σ' H' => D.ct (σ'.set i none) H' }
/-- what the clauses wish of an exception of the body, one after the other; slot i is the name's -/
def wManyN (K : PySem.W.Frag) (i : Nat) (Wout : WX) (D : Ends) : List (Value × (Addr → Value → Option Addr → TS)) → WX
  | [] => Wout
  | (c, ts) :: r => fun cls d σ H => ∃ b, PySem.W.exmOne K cls c = some b ∧ (b = true → ∀ a, H a = none → ts a cls d (endsN D i) (σ.set i (some (.ref a))) H) ∧ (b = false → wManyN K i Wout D r cls d σ H)
inductive HdsN (X : Cx) (n : Str) : List ExceptHandler → List (Value × (Addr → Value → Option Addr → TS)) → Prop
  | nil : HdsN X n [] []
  | cons {x : Str} {c : Value} {ts : Addr → Value → Option Addr → TS} {b₀ : Stmt} {suite : List Stmt} {np pos' : Pos} {hds : List ExceptHandler} {l : List (Value × (Addr → Value → Option Addr → TS))} (hc : Names X x c)
      (hsu : ∀ (a : Addr) (oe : Obj) (cls : Value) (d : Option Addr) (pn : List (Addr × Obj)), Zn cls d oe → (∃ vs, oe.data = .fields vs) → PSs (X.suite a ((a, oe) :: pn)) (b₀ :: suite) (ts a cls d)) (r : HdsN X n hds l) :
      HdsN X n (.ExceptHandler (some (.Name x np)) (some n) (b₀ :: suite) pos' :: hds) ((c, ts) :: l)
section
variable {X : Cx} {n : Str} {i : Nat} {body : List Stmt} {h₀ : ExceptHandler} {hds : List ExceptHandler} {l : List (Value × (Addr → Value → Option Addr → TS))} {pos : Pos} {tb : WX → TS} {Wout : WX}
theorem ps_try_manyN (hs : X.stack = X.env :: X.outer) (hf : X.env.frame = some X.env.locals) (hN : X.N.Nodup) (hi : X.N[i]? = some n) (hln : X.env.kindOf n = some .local) (tk : Takes X Wout)
    (hb : ∀ (W : WX) (pn : List (Addr × Obj)) (xe : Value → Shared → Prop), Takes (X.tr pn xe) W → PassesOwn (model X.prog X.w) X.A X.env xe → PSs (X.tr pn xe) body (tb W))
    (hh : HdsN X n (h₀ :: hds) l) : PS X (.Try body (h₀ :: hds) [] [] pos) (fun D σ H => tb (wManyN X.K i Wout D l) D σ H) := by
  refine ⟨fun pins s σ H D I h => ?_⟩
  have ok := I.ok
  have hfr : X.A.frames = some (X.env :: X.outer) := by rw [ok.frames, hs]
  have hloc : Loc X.env.scope n := .inl hln
  refine wpAny_Try_except ?_
  refine wpAny_mono ((hb (wManyN X.K i Wout D l) (X.pn ++ pins) (fun e s₁ => wpAny (model X.prog X.w) X.A (noteFrame e X.env) (fun _ s₂ => wpAny (model X.prog X.w) X.A (setFlight e none) (fun _ s₃ =>
    wpAny (model X.prog X.w) X.A (handleBy e X.env (h₀ :: hds)) (SP X pins D) X.xe s₃) X.xe s₂) X.xe s₁) (fun u s' xx => ?_) PassesOwn.looking).run [] s σ H D (I.toTry _) h) (fun f s1 hsp => ?_) (fun e s1 he => he)
  · -- the catch
    obtain ⟨a, B, sI, pins', σ', H', cls, d, rfl, J', nb, up, sky, na, os, ag, w⟩ := xx
    have J : Inv X pins σ' H' sI := J'.ofTry ok
    have sky' : Sky B (X.env :: X.outer) a (Zn cls d) X.env.locals s'.heap := by rw [← hs]; exact sky
    show wpAny (model X.prog X.w) X.A (noteFrame (.ref a) X.env) _ _ _
    refine Sky.land Zn.steady hfr hf sky' fun h3 fl3 up3 => ?_
    have J3 : Inv X pins σ' H' { s' with heap := h3 } := J.landed nb fl3.1 (up.trans up3) os ag
    obtain ⟨oe3, vs3, he3, hz3, hd3⟩ := fl3.there
    have notFr : ∀ {h : Heap} {o : Obj} {vs : Array Value}, h.FunFrames B (X.env :: X.outer) → h.get? a = some o → o.data = .fields vs → a ∉ frs (X.env :: X.outer) := fun {h o vs} ff e dd hm => by
      obtain ⟨_, o', e', hnf⟩ := ff.mem hm
      rw [e] at e'; cases e'
      exact hnf _ dd
    have nfr := notFr fl3.2.2.1 he3 hd3
    have nL : a ≠ X.env.locals := fun z => nfr (List.mem_filterMap.mpr ⟨X.env, List.mem_cons_self, by rw [hf, z]⟩)
    have nF : a ∉ X.fs := fun hm => by
      obtain ⟨e, he, q⟩ := List.mem_filterMap.mp hm
      exact nfr (List.mem_filterMap.mpr ⟨e, List.mem_cons_of_mem _ he, q⟩)
    have S3 := J3.suite he3 hd3 na nL nF
    have go : ∀ {hds' : List ExceptHandler} {l' : List (Value × (Addr → Value → Option Addr → TS))}, HdsN X n hds' l' → wManyN X.K i Wout D l' cls d σ' H' →
        wpAny (model X.prog X.w) X.A (handleBy (.ref a) X.env hds') (SP X pins D) X.xe { s' with heap := h3 } := by
      intro hds' l' hk
      induction hk with
      | nil =>
        intro w
        refine wpAny_handleBy_nil ?_
        obtain ⟨k1, k2, k3, oe, vs, T, oT, ts', he, hz, hd, h1, hr⟩ := id fl3
        unfold PySem.passOn
        refine wpAny_bind (wpAny_field he hd h1 ?_)
        rw [if_neg (show ¬ ((Value.ref T == Value.none) = true) from by simp)]
        have fin : wpAny (model X.prog X.w) X.A (setFlight (.ref a) X.env.frame) (fun _ s4 => wpAny (model X.prog X.w) X.A (throw (.ref a) : Sem Flow) (SP X pins D) X.xe s4) X.xe { s' with heap := h3 } := by
          rw [hf]
          refine HandSPX.setFlight_upZ fl3 fun h4 hh4 up4 => wpAny_throw (tk _ _ ?_)
          exact ⟨a, B, sI, pins, σ', H', cls, d, rfl, J, nb, (up.trans up3).trans up4, .inr (.inr (by rw [hs]; exact hh4)), na, os, ag, w⟩
        first
          | exact wpAny_bind (wpAny_pure (wpAny_bind fin))
          | exact wpAny_bind fin
      | @cons x c ts b₀ suite np pos' hds2 l2 hc hsu r ih =>
        intro w
        obtain ⟨b, hb1, hyes, hno⟩ := w
        refine wpAny_handleBy_cons (codeAny_handlers_test ?_) (by intro q; cases q)
        have LT : PySem.W.Looks (model X.prog X.w) h3 (typeOf (.ref a)) cls := fun A Q E s k q => wpAny_typeOf_ref (k _ _ he3) (by rw [hz3.1]; exact q)
        have LM := PySem.W.exm_one (M := model X.prog X.w) (J3.kIn) LT hb1
        have test : ∀ {Q : Value → Shared → Prop} {E : Value → Shared → Prop}, Q c { s' with heap := h3 } → wpAny (model X.prog X.w) (X.A.mark (some (.ref a))) (eval (.Name x np) X.env) Q E { s' with heap := h3 } := fun {Q E} q => by
          obtain ⟨hg, hdbg, hm | ⟨hm, hv, hnn⟩⟩ := hc
          · exact ld_glob (X := X.suite a ((a, oe3) :: (X.pn ++ pins))) S3 hg hm q hdbg
          · exact ld_blt (X := X.suite a ((a, oe3) :: (X.pn ++ pins))) S3 hg hm hv q hnn hdbg
        refine test (LM.here ?_)
        cases b with
        | true =>
          refine codeAny_handlers_suite_as ?_
          refine HandSPX.lands_againZ fl3 fun h4 fl4 up4 => ?_
          have J4 : Inv X pins σ' H' { s' with heap := h4 } := J.landed nb fl4.1 ((up.trans up3).trans up4) os ag
          obtain ⟨oe4, vs4, he4, hz4, hd4⟩ := fl4.there
          have S4 := J4.suite he4 hd4 na nL nF
          refine store_ok (X := X.suite a ((a, oe4) :: (X.pn ++ pins))) (v := .ref a) S4 hN hi hloc rfl (fun s5 S5 => ?_) (.inr hln)
          refine wpAny_mono ((hsu a oe4 cls d (X.pn ++ pins) hz4 ⟨_, hd4⟩).run [] s5 _ H' _ S5 (hyes rfl a na)) (fun f s6 hsp => ?_) (fun _ _ z => False.elim z)
          have end_ : ∀ {σ6 : St} {H6 : Hp} {Q : Shared → Prop}, Inv (X.suite a ((a, oe4) :: (X.pn ++ pins))) [] σ6 H6 s6 → (∀ s7, Inv X pins (σ6.set i none) H6 s7 → Q s7) →
              wpAny (model X.prog X.w) X.A (do bindName X.env n .none; unbindBehindTheSuite X.env n pos') (fun _ s7 => Q s7) X.xe s6 := fun {σ6 H6 Q} S6 hq => gone_ok (S6.unsuite ok) hN hi hln hq
          cases f with
          | next =>
            obtain ⟨σ6, H6, S6, q6⟩ := hsp
            exact end_ S6 fun s7 J7 => ⟨_, _, J7, q6⟩
          | brk =>
            obtain ⟨σ6, H6, S6, q6⟩ := hsp
            exact end_ S6 fun s7 J7 => ⟨_, _, J7, q6⟩
          | cont =>
            obtain ⟨σ6, H6, S6, q6⟩ := hsp
            exact end_ S6 fun s7 J7 => ⟨_, _, J7, q6⟩
          | ret u =>
            obtain ⟨v6, σ6, H6, S6, r6, q6⟩ := hsp
            exact end_ S6 fun s7 J7 => ⟨_, _, _, J7, r6, q6⟩
        | false =>
          show wpAny _ X.A (handleBy (.ref a) X.env hds2) _ _ _
          exact ih (hno rfl)
    exact go hh w
  · cases f with
    | next =>
      obtain ⟨σ', H', J', q⟩ := hsp
      exact wpAny_execs_nil ⟨σ', H', J'.ofTry ok, q⟩
    | brk =>
      obtain ⟨σ', H', J', q⟩ := hsp
      exact ⟨σ', H', J'.ofTry ok, q⟩
    | cont =>
      obtain ⟨σ', H', J', q⟩ := hsp
      exact ⟨σ', H', J'.ofTry ok, q⟩
    | ret u =>
      obtain ⟨v, σ', H', J', r, q⟩ := hsp
      exact ⟨v, σ', H', J'.ofTry ok, r, q⟩
end
/-- X() -/
theorem pmk_own0 {X : Cx} {C : Addr} {bmB : List Value} {B newId initId : String} {x : Str} {p pos : Pos} (F : ExcBaseFacts B newId initId bmB) (q : PySem.W.excIn X.K C bmB newId = true) (gC : X.mg x = some (.ref C)) (kC : PySem.W.keepIn X.K (.ref C) = true) (r : Raises X (.ref C)) (hg : Gl X x)
    (hdb : (x == ("__debug__" : Str)) = false := by decide) : PMk X (.Call (.Name x p) [] [] pos) (fun _ H Q => Q (.ref C) none H) := by
  intro pins s σ H Q I h
  refine wpAny_Call_Name_kw (ld_glob I hg gC ?_ hdb)
  refine PySem.W.callWith_K0 I.kIn kC ?_
  show wpAny _ _ (call (.ref C) []) _ _ _
  obtain ⟨bm, N, nm, qn, bs, hdct, sn, sub, ab, col, dd, k0, k1, k2, k3, k5, mN, hC, hN, hni, T⟩ := exc_obj I.kIn q
  refine wpAny_call_exc_subT F T hC hN hni (fun h' e hm => ?_) (by show 0 ≤ sizeLine; omega)
  exact mk_of I hm r h (I.hok.gone hm.new)
end L2N
namespace Wm
open PySem PySem.Spec PyProof.Rows L2
/-! ### defs that raise, told over data -/
/-- R: the objects, the arguments, the class that is raised; the objects stay -/
def spE (K : PySem.W.Frag) (R : Ms → List Sl → Addr → Prop) : Sp := fun vs H _ E => ∃ L M ss C, (∀ a ∈ L, H a ≠ none) ∧ (∀ a ∈ ad M, a ∈ L) ∧ (ad M).Nodup ∧ Paired (SlOk K (hid L H)) vs ss ∧ (∀ x ∈ M, MOk K (hid L H) H x.1 x.2) ∧ R M ss C ∧
  ∀ H1, Same (hid (ad M) H) H1 → (∀ x ∈ M, MOk K (hid L H1) H1 x.1 x.2) → E (.ref C) none H1
section
variable {P : Program} {w : World} {K : PySem.W.Frag} {mg : Str → Option Value} {base : Heap} {x qual : Str} {st : Stmt} {f C : Addr} {fd : FuncData} {N ps : List Str} {j k : Nat} {sp sp' : Sp}
theorem okE {R : Ms → List Sl → Addr → Prop} (Fn : Fun K x qual st f fd) (S : FnScope N ps (defScope st)) (hl : ∀ M ss C, R M ss C → ss.length = ps.length)
    (hb : ∀ cdv A outer s H E, Room k (A.deeper (envOfC qual (defScope st) s.heap.objs.size f cdv)) → ∃ t, PSs (cxOf (L2N.CX P w) P w K mg base N qual (defScope st) f cdv A outer s H E) (defBody st) t ∧
      ∀ M ss C, R M ss C → ∀ (F : Hp) L σ H (D : Ends), (∀ H', Same F H' → (∀ x ∈ M, MOk K (hid L H') H' x.1 x.2) → E (.ref C) none H') → (∀ a ∈ ad M, a ∈ L) → Ok K F L σ H (st0 N ss) M → t D σ H) :
    FnOk P w K mg base (L2N.CX P w) (k + 1) f fd ps (spE K R) := by
  obtain ⟨oc, od, kV, doc, pm, an, cdv, ct, osl, rfl, lk, hcd⟩ := Fn.ex
  refine fn_of lk hcd S (fun vs H Q E h => ?_) fun A outer s H vs Q E hr h => ?_
  · obtain ⟨L, M, ss, C, lv, hL, nd, hp, hm, hR, _⟩ := h
    rw [paired_len hp]; exact hl _ _ _ hR
  · obtain ⟨L, M, ss, C, lv, hL, nd, hp, hm, hR, q⟩ := h
    obtain ⟨t, h1, h2⟩ := hb cdv A outer s H E hr
    have sub : ∀ G : Hp, Same (hid L G) (hid (L ++ ad M) G) := fun G => hid_sub fun a ha => by
      rcases List.mem_append.mp ha with z | z
      · exact z
      · exact hL a z
    exact ⟨t, h1, h2 M ss C hR (hid (ad M) H) L _ H _ (fun H' s2 g1 => q H' s2 g1) hL (ok_start (Paired.mapP hp fun _ _ z => z.mono (sub H)) lv (fun y hy => (hm y hy).mono (sub H) rfl) nd (hid_le _ _) fun a ha => hid_in ha)⟩
/-- what a def that may raise hands its callers -/
def HasX (P : Program) (w : World) (K : PySem.W.Frag) (mg : Str → Option Value) (base : Heap) (k : Nat) (x : Str) (ps : List Str) (sp : Sp) : Prop := ∃ f fd, FnOk P w K mg base (L2N.CX P w) k f fd ps sp ∧ mg x = some (.ref f) ∧ PySem.W.keepIn K (.ref f) = true ∧ Binds K fd ps []
def HasMX (P : Program) (w : World) (K : PySem.W.Frag) (mg : Str → Option Value) (base : Heap) (C : Addr) (k : Nat) (m : Str) (ps : List Str) (sp : Sp) : Prop := ∃ (f : Addr) (fd : FuncData), FnOk P w K mg base (L2N.CX P w) k f fd ps sp ∧ Meth K C m f ∧ Binds K fd ps []
theorem HasX.mono (h : HasX P w K mg base j x ps sp) (e : j ≤ k) : HasX P w K mg base k x ps sp := by
  obtain ⟨f, fd, h1, h2, h3, h4⟩ := h
  exact ⟨f, fd, h1.mono e, h2, h3, h4⟩
theorem HasMX.mono (h : HasMX P w K mg base C j x ps sp) (e : j ≤ k) : HasMX P w K mg base C k x ps sp := by
  obtain ⟨f, fd, h1, h2, h3⟩ := h
  exact ⟨f, fd, h1.mono e, h2, h3⟩
theorem fnOk_or {CX : CXT} {f : Addr} {fd : FuncData} (a : FnOk P w K mg base CX k f fd ps sp) (b : FnOk P w K mg base CX k f fd ps sp') : FnOk P w K mg base CX k f fd ps (fun vs H Q E => sp vs H Q E ∨ sp' vs H Q E) :=
  ⟨fun vs H Q E h => h.elim (a.len _ _ _ _) (b.len _ _ _ _), fun A outer s H args us vs Q E hr e0 hb r h => h.elim (a.run A outer s H args us vs Q E hr e0 hb r) (b.run A outer s H args us vs Q E hr e0 hb r)⟩
theorem spE_or {R R' : Ms → List Sl → Addr → Prop} {vs : List V} {H : Hp} {Q : VK} {E : XK} (h : spE K (fun M ss C => R M ss C ∨ R' M ss C) vs H Q E) : spE K R vs H Q E ∨ spE K R' vs H Q E := by
  obtain ⟨L, M, ss, C, h1, h2, h3, h4, h5, h6, h7⟩ := h
  rcases h6 with z | z
  · exact .inl ⟨L, M, ss, C, h1, h2, h3, h4, h5, z, h7⟩
  · exact .inr ⟨L, M, ss, C, h1, h2, h3, h4, h5, z, h7⟩
theorem spMs_or {R R' : Ms → List Sl → PyData → Ms → Prop} {vs : List V} {H : Hp} {Q : VK} {E : XK} (h : spMs K (fun M ss r M' => R M ss r M' ∨ R' M ss r M') vs H Q E) : spMs K R vs H Q E ∨ spMs K R' vs H Q E := by
  obtain ⟨L, M, ss, r, M', h1, h2, h3, h4, h5, h6, h7⟩ := h
  rcases h6 with z | z
  · exact .inl ⟨L, M, ss, r, M', h1, h2, h3, h4, h5, z, h7⟩
  · exact .inr ⟨L, M, ss, r, M', h1, h2, h3, h4, h5, z, h7⟩
/-- what stands behind a raise -/
theorem pss_never {X : Cx} {ss : List Stmt} : PSs X ss (fun _ _ _ => False) := ⟨fun _ _ _ _ _ _ h => h.elim⟩
theorem pss_pre {X : Cx} {ss : List Stmt} {p : Prop} {t : TS} (h : p → PSs X ss t) : PSs X ss (fun D σ H => p ∧ t D σ H) := ⟨fun pins s σ H D I ⟨h1, h2⟩ => (h h1).run pins s σ H D I h2⟩
/-- an own class of error, without an __init__ of its own -/
structure ErrC (K : PySem.W.Frag) (mg : Str → Option Value) (x : Str) (C : Addr) : Prop where
  g : mg x = some (.ref C)
  ex : PySem.W.excIn K C [.type "ValueError", .type "Exception", .type "BaseException", .type "object"] "ValueError.__new__" = true
  kp : PySem.W.keepIn K (.ref C) = true
  s1 : PySem.W.subIn K (.ref C) (.type "BaseException") = some true
  t1 : PySem.W.typeIn K (.ref C) = some (.type "type")
section
variable {scope : Scope} {cd : Value} {A : Around} {outer : List Env} {s : Shared} {H : Hp} {E : XK} {p pos pos' : Pos}
theorem passE : Passes (L2N.CX P w) (cxOf (L2N.CX P w) P w K mg base N qual scope f cd A outer s H E) E := L2N.passes_call (L2N.takes_of rfl rfl rfl rfl) (fun _ _ _ _ h => h)
theorem ps_raiseX (Y : ErrC K mg x C) (hg : Gl (cxOf (L2N.CX P w) P w K mg base N qual scope f cd A outer s H E) x) (hd : (x == ("__debug__" : Str)) = false := by decide) :
    PS (cxOf (L2N.CX P w) P w K mg base N qual scope f cd A outer s H E) (.Raise (some (.Call (.Name x p) [] [] pos)) none pos') (fun _ _ H' => E (.ref C) none H') :=
  L2N.ps_raise (t := fun _ H Q => Q (.ref C) none H) rfl (L2N.takes_of rfl rfl rfl rfl) (L2N.pmk_own0 PySem.F.excBase_ValueError Y.ex Y.g Y.kp (raises_own Y.s1 Y.t1) hg hd)
end
end
section
variable {K : PySem.W.Frag} {F F' H H' H0 H1 : Hp} {L : List Addr} {σ σ' : L2.St} {ρ ρ' : List Sl} {M M' M0 M1 M2 M3 Mn : Ms}
variable {te ta tb tc ti td ty tx tv : TE} {tt : TT} {tr : TA} {s s1 s2 : Sl} {ss : List Sl} {d d1 d2 d3 : PyData} {ds es : List PyData} {D : Ends} {tu tw tz : TS} {p q C C0 : Addr} {fs : List (Str × Sl)} {m : Str} {E : XK} {Q : VK} {R : Ms → List Sl → Addr → Prop}
theorem x_sp {vs : List V} (o : Ok K F L σ H ρ M) (M0 : Ms) (w : M0.Sublist M) (hv : Paired (SlOk K (hid (L ++ ad M) H)) vs ss) (hR : R M0 ss C) (hE : ∀ H1, Ok K F L σ H1 ρ M → E (.ref C) none H1) : spE K R vs H Q E :=
  ⟨L ++ ad M, M0, ss, C, fun a ha => o.there ha, fun a ha => List.mem_append_right _ ((w.map Prod.fst).subset ha), List.Nodup.sublist (w.map _) o.nd, hv, fun x hx => o.ob x (w.subset hx), hR, fun H2 s2 hm => hE H2 (swap_ok o (fun nd => Sw.same w nd) s2 hm rfl).1⟩
/-- a call that raises -/
theorem x_call (ha : EvA K tr ρ M ss M) (M0 : Ms) (w : M0.Sublist M) (hR : R M0 ss C) (hE : ∀ H1, Ok K F L σ H1 ρ M → E (.ref C) none H1) (o : Ok K F L σ H ρ M) : tCall (spE K R) [] E tr σ H Q := ha F L σ H o _ fun vs H1 o1 e1 a1 x1 => by
  rw [List.append_nil]
  exact x_sp o1 M0 w x1 hR hE
theorem x_meth (ho : Ev K ta ρ M (.loc (.ref p)) M) (hp : (p, MO.ins C0 fs) ∈ M) (hl : fs.lookup m = none) (ha : EvA K tr ρ M ss M) (M0 : Ms) (w : M0.Sublist M) (hR : R M0 (.loc (.ref p) :: ss) C) (hE : ∀ H1, Ok K F L σ H1 ρ M → E (.ref C) none H1) (o : Ok K F L σ H ρ M) : tMeth C0 m (spE K R) [] E ta tr σ H Q := ho F L σ H o _ fun x H0 o0 e0 a0 x0 => by
  have ex : x = .ref p := x0
  subst ex
  obtain ⟨dx, gs, h1, h2⟩ := o0.ob _ hp
  refine ⟨p, dx, gs, rfl, h1, FF.none h2 hl, ha F L σ H0 o0 _ fun vs H1 o1 e1 a1 x1 => ?_⟩
  rw [List.append_nil]
  exact x_sp (ss := .loc (.ref p) :: ss) o1 M0 w (.cons rfl x1) hR hE
/-- .. as a statement -/
theorem x_drop (h : ∀ Q, te σ H Q) : tDrop te D σ H := h _
theorem x_ret (h : ∀ Q, te σ H Q) : tRet te D σ H := h _
theorem xq_drop (h : ∀ Q, te σ H Q) : tSeq (tDrop te) tz D σ H := h _
theorem xq_ifT (h : EvT K tt ρ M true M) (h1 : ∀ H D, Ok K F L σ H ρ M → tu D σ H) (o : Ok K F L σ H ρ M) : tSeq (tIfS tt tu tw) tz D σ H := s_ifT (D := { D with nx := tz D }) h (fun H o => h1 H _ o) o
theorem x_if {b : Bool} (h : EvT K tt ρ M b M) (h1 : ∀ H, Ok K F L σ H ρ M → (if b = true then ta else tb) σ H Q) (o : Ok K F L σ H ρ M) : tIf tt ta tb σ H Q := h F L σ H o _ fun H1 o1 e1 a1 => by
  have z := h1 H1 o1
  cases b
  · exact z
  · exact z
end
end Wm

/-! lambdas with parameters: made, kept, called. -/
namespace Wm
open PySem PySem.Spec PyProof.Rows L2
open NdefX (NF NScope CellsAt startF envF ncx TabN inv_startN codeO_at among_app2 upd_none)
open LamX (CodeO TabB ExtN inv_table codeO_ne)
/-- the object at f is the lambda F with the body e -/
def LamO (f : Addr) (F : NF) (e : Expr) : HO := .ext fun h => ∃ (od : Option Addr) (sl : Array (Option Value)) (pm ctv : Value), h.get? f = some (⟨.type "function", od, .func (PySem.W.kla_fn F.name F.qual F.params e F.scope F.cl pm (.ref F.c) ctv), sl⟩ : Obj)
theorem lamO_at {P : Program} {w : World} {H : Hp} {h : Heap} {f : Addr} {F : NF} {e : Expr} (hok : HOk P w H h) (z : H f = some (LamO f F e)) : ∃ (od : Option Addr) (sl : Array (Option Value)) (pm ctv : Value), h.get? f = some (⟨.type "function", od, .func (PySem.W.kla_fn F.name F.qual F.params e F.scope F.cl pm (.ref F.c) ctv), sl⟩ : Obj) := by
  obtain ⟨z, _, _⟩ := hok f _ z
  exact z
section
variable {X : Cx} {pins : List (Addr × Obj)} {σ : L2.St} {H : Hp} {s : Shared}
theorem inv_lam {F : NF} {e : Expr} {o : Obj} {t' : Nat} {pm ctv : Value} (I : Inv X pins σ H s) (ho : o = { cls := .type "function", data := .func (PySem.W.kla_fn F.name F.qual F.params e F.scope F.cl pm (.ref F.c) ctv) }) :
    Inv X pins σ (upd H s.heap.objs.size (LamO s.heap.objs.size F e)) { s with heap := s.heap.push o, toks := t' } := by
  subst ho
  refine I.laid (a := s.heap.objs.size) (fun b u e => Heap.get?_push_of_some _ e) (Nat.le_refl _) ?_
  have e : (s.heap.push ({ cls := .type "function", data := .func (PySem.W.kla_fn F.name F.qual F.params e F.scope F.cl pm (.ref F.c) ctv) } : Obj)).get? s.heap.objs.size = some ({ cls := .type "function", data := .func (PySem.W.kla_fn F.name F.qual F.params e F.scope F.cl pm (.ref F.c) ctv) } : Obj) := Heap.get?_push_size _ rfl
  exact ⟨⟨_, _, pm, ctv, e⟩, ⟨_, e⟩, fun h1 h2 ⟨od, sl, p, t, z⟩ st => ⟨od, sl, p, t, st _ z⟩⟩
/-- the reading of a lambda: f is new, its code object new or found in the table at P -/
def tLamE (P : Addr) (nm : Nat → Nat → Str) (mk : Addr → NF) (e : Expr) : TE := fun _ H Q => ∃ ps : Array Value, H P = some (.tbl ps) ∧ TriplesOk ps.toList ∧ (∀ (pos : Pos) (cv : Value), codeAmong pos ps.toList = some cv → ∃ c, cv = .ref c ∧ H c = some (CodeO c (nm pos.line pos.col))) ∧
  ∀ (f c' : Addr) (H1 : Hp) (ps' : Array Value), (∀ b o, b ≠ P → H b = some o → H1 b = some o) → H1 P = some (.tbl ps') → TriplesOk ps'.toList → (∀ (pos : Pos) (cv : Value), codeAmong pos ps'.toList = some cv → codeAmong pos ps.toList = some cv ∨ (cv = .ref c' ∧ nm pos.line pos.col = (mk c').qual)) →
    (H c' = none ∨ ∃ pos : Pos, codeAmong pos ps.toList = some (.ref c')) → H f = none → H1 f = some (LamO f (mk c') e) → H1 c' = some (CodeO c' (mk c').qual) → Q (.ref f) H1
theorem pe_lam {nm : Nat → Nat → Str} {c P : Addr} {params : Arguments} {body : Expr} {scope : Scope} {pos : Pos} (TB : TabB X.base X.mg c P) (hcode : X.env.code = .ref c) (hn : nm pos.line pos.col = X.env.qual ++ "<lambda>") (hdef : defaultsOf params X.env = ([], [])) (hfree : scope.names.all (fun y => !decide (y.2 = .free)) = true) :
    PE X (.Lambda params body scope pos) (tLamE P nm (fun c' => ⟨"<lambda>", X.env.qual ++ "<lambda>", params, [], scope, [], c'⟩) body) := by
  refine ⟨fun pins s σ H Q I h => ?_⟩
  obtain ⟨ps, hP, ht, ha, h⟩ := h
  have nofree : ∀ y ∈ scope.names, y.2 = .free → False := fun y hy e => by
    have z := List.all_eq_true.mp hfree y hy
    simp [e] at z
  have hfr : ∀ y ∈ scope.names, y.2 = .free → ∃ c, X.env.cells.lookup y.1 = some c := fun y hy e => (nofree y hy e).elim
  have hcl : cloFrom X.env.cells scope.names [] = [] := by
    cases e : cloFrom X.env.cells scope.names [] with
    | nil => rfl
    | cons y ys =>
      have hm : y ∈ cloFrom X.env.cells scope.names [] := by rw [e]; exact List.mem_cons_self
      rcases cloFrom_mem (show (y.1, y.2) ∈ _ from hm) with z | ⟨h1, _⟩
      · cases z
      · exact (nofree _ h1 rfl).elim
  have hclo := closure_ok hfr
  rw [hcl] at hclo
  refine PySem.W.kla_eval hdef ?_
  have bP : s.heap.BuiltinsAt X.mg P := TB.bm.keeps I.bk
  have hP' : s.heap.get? P = some { cls := .none, data := .fields ps } := I.hok P _ hP
  cases hc : codeAmong pos ps.toList with
  | none =>
    refine PySem.W.kla_makeFunction (mg := X.mg) (c := c) (P := P) (ps := ps) hclo I.ok.glob (I.mod.glob.keeps I.bk) hcode (TB.code.keeps I.bk) hP' ht hc TB.gP bP fun c' ctv h' tk hx hge hlt hrec htb => ?_
    obtain ⟨c2, oc, vs, t, e2, hoc, hd, hv⟩ := hrec
    cases e2
    have nC : H c' = none := I.hok.fresh hge
    have I1 := inv_table (t' := tk) (more := #[rawInt pos.line, rawInt pos.col, .ref c']) (h' := h') I hP (fun b o hb e => hx b o hb e) htb hge ⟨oc, vs, t, hoc, hd, hv⟩
    have eL : (ps ++ #[rawInt pos.line, rawInt pos.col, .ref c']).toList = ps.toList ++ [rawInt pos.line, rawInt pos.col, .ref c'] := by simp
    have nF := I1.hok.fresh (Nat.le_refl _)
    have I2 := inv_lam (F := ⟨"<lambda>", X.env.qual ++ "<lambda>", params, [], scope, [], c'⟩) (e := body) (t' := tk) (pm := (X.mg "__name__").getD .none) (ctv := ctv) I1 rfl
    have eP : upd (upd H P (.tbl (ps ++ #[rawInt pos.line, rawInt pos.col, .ref c']))) c' (CodeO c' (X.env.qual ++ "<lambda>")) P = some (.tbl (ps ++ #[rawInt pos.line, rawInt pos.col, .ref c'])) := by rw [upd_ne (ne_of_none hP nC), upd_same]
    refine ⟨.ref h'.objs.size, _, I2, rfl, h h'.objs.size c' _ (ps ++ #[rawInt pos.line, rawInt pos.col, .ref c']) (fun b o hb e => ?_) ?_ (by rw [eL]; exact PySem.TriplesOk_snoc _ _ _ _ ht) (fun p' cv hcv => ?_) (.inl nC) (I.hok.fresh (Nat.le_trans hge (Nat.le_of_lt hlt))) upd_same ?_⟩
    · have e1 : upd (upd H P (.tbl (ps ++ #[rawInt pos.line, rawInt pos.col, .ref c']))) c' (CodeO c' (X.env.qual ++ "<lambda>")) b = some o := by rw [upd_ne (ne_of_none e nC), upd_ne hb]; exact e
      exact (upd_ne (ne_of_none e1 nF)).trans e1
    · exact (upd_ne (ne_of_none eP nF)).trans eP
    · rw [eL] at hcv
      rcases among_app2 _ ht hcv with z | ⟨z, z1, z2⟩
      · exact .inl z
      · exact .inr ⟨z, by rw [← z1, ← z2, hn]⟩
    · exact (upd_ne (Nat.ne_of_lt hlt)).trans upd_same
  | some cv =>
    obtain ⟨c', e, hco⟩ := ha pos cv hc
    subst e
    rw [hn] at hco
    refine PySem.W.kla_makeFunctionHit (mg := X.mg) (c := c) (P := P) (ps := ps) hclo I.ok.glob (I.mod.glob.keeps I.bk) hcode (TB.code.keeps I.bk) hP' ht hc bP fun ctv h' tk hx hsz => ?_
    have I1 : Inv X pins σ H { s with heap := h', toks := tk } := I.kept hx
    have nF : H h'.objs.size = none := I1.hok.fresh (Nat.le_refl _)
    have I2 := inv_lam (F := ⟨"<lambda>", X.env.qual ++ "<lambda>", params, [], scope, [], c'⟩) (e := body) (t' := tk) (pm := (X.mg "__name__").getD .none) (ctv := ctv) I1 rfl
    exact ⟨.ref h'.objs.size, _, I2, rfl, h h'.objs.size c' _ ps (fun b o hb e => (upd_ne (ne_of_none e nF)).trans e) ((upd_ne (ne_of_none hP nF)).trans hP) ht (fun p' cv hcv => .inl hcv) (.inr ⟨pos, hc⟩) nF upd_same ((upd_ne (ne_of_none hco nF)).trans hco)⟩
end
/-! ### called -/
structure LOk (P : Program) (w : World) (K : PySem.W.Frag) (mg : Str → Option Value) (base : Heap) (CX : CXT) (k : Nat) (f : Addr) (F : NF) (e : Expr) (ps : List Str) (sp : Sp) : Prop where
  len : ∀ vs H Q E, sp vs H Q E → vs.length = ps.length
  run : ∀ (A : Around) (outer : List Env) (s : Shared) (H : Hp) (us : List Value) (vs : List V) (Q : VK) (E : XK), Room k A → Env0 P w K mg base A outer s H → H f = some (LamO f F e) → H F.c = some (CodeO F.c F.qual) →
    Vals vs us → sp vs H Q E → codeAny (model P w) A (.call (.ref f) ⟨us, []⟩) (CR CX outer P w H s Q E) s
section
variable {CX : CXT} {P : Program} {w : World} {K : PySem.W.Frag} {mg : Str → Option Value} {base : Heap} {N ps : List Str} {F : NF} {e : Expr} {f : Addr} {k j : Nat} {sp sp' : Sp}
theorem LOk.mono (o : LOk P w K mg base CX j f F e ps sp) (h : j ≤ k) : LOk P w K mg base CX k f F e ps sp := ⟨o.len, fun A outer s H us vs Q E hr => o.run A outer s H us vs Q E (hr.mono h)⟩
theorem lok_of (S : NScope N ps [] F.scope) (hcl : F.cl = []) (hb : ∀ (pm ctv : Value) (us : List Value), us.length = ps.length → bindArgs (PySem.W.kla_fn F.name F.qual F.params e F.scope F.cl pm (.ref F.c) ctv) ⟨us, []⟩ = pure (ps.zip us)) (len : ∀ vs H Q E, sp vs H Q E → vs.length = ps.length)
    (hbody : ∀ (A : Around) (outer : List Env) (s : Shared) (H : Hp) (vs : List V) (Q : VK) (E : XK), Room k (A.deeper (envF F f s.heap.objs.size)) → sp vs H Q E →
      ∃ t, PE (ncx CX P w K mg base N F f A outer s H E) e t ∧ t (startF N vs []) H Q) :
    LOk P w K mg base CX (k + 1) f F e ps sp := by
  refine ⟨len, fun A outer s H us vs Q E hr e0 hf hc r hsp => ?_⟩
  have hl := len _ _ _ _ hsp
  have lim : s.heap.NoLimit := e0.mod.nolimit.keeps fun b o e => (e0.bs b o e).1
  obtain ⟨od, sl, pm, ctv, ho⟩ := lamO_at e0.hok hf
  refine PySem.W.kla_callFunE hr.depth ho rfl S.co S.gen rfl (codeO_at e0.hok hc) ?_
  rw [hb pm ctv us (by rw [← r.length]; exact hl)]
  refine wpAny_pure (wpAny_newFunctionEnv S.nocell (fun ⟨n, _⟩ hy => S.par n (List.of_mem_zip hy).1) (fun h₁ hns hsb => ⟨lim.fresh _ hsb, ?_⟩) S.kind)
  show codeAny _ _ (.expr e (envF F f s.heap.objs.size)) _ _
  have kp : ∀ b o, s.heap.get? b = some o → h₁.get? b = some o := fun b o e => hsb.extBut b o (Nat.ne_of_lt (Heap.lt_size e)) (Heap.get?_push_of_some _ e)
  obtain ⟨t, ht, hq⟩ := hbody A outer s H vs Q E (hr.deeper _) hsp
  have C : CellsAt F.cl [] [] s.heap H := by
    rw [hcl]
    exact ⟨rfl, fun y c z => (nomatch z), fun x y c z => (nomatch z), fun i y z => by simp at z⟩
  have I : Inv (ncx CX P w K mg base N F f A outer s H E) [] (startF N vs []) H { s with heap := h₁, toks := s.toks + (ps.zip us).length } := inv_startN S hr.hd e0 hl r C hns kp
  refine PySem.W.kla_codeExpr (wpAny_mono (ht.run [] _ _ H Q I hq) (fun v s' hs => ?_) fun e s' hs => hs)
  obtain ⟨w', H', J', rv, q⟩ := hs
  exact ⟨w', H', J'.os, J'.bare, J'.base, J'.hok, rv, q⟩
/-- an exception goes through the lambda's frame -/
theorem passN {A : Around} {outer : List Env} {s : Shared} {H : Hp} {E : XK} : Passes (L2N.CX P w) (ncx (L2N.CX P w) P w K mg base N F f A outer s H E) E := L2N.passes_call (L2N.takes_of rfl rfl rfl rfl) (fun _ _ _ _ h => h)
end
/-- x(..), x a name that holds a lambda -/
def tCallL (mk : Addr → NF) (e : Expr) (i : Nat) (sp : Sp) (E : L2.St → XK) (t : TA) : TE := fun σ H Q => ∃ f c', σ[i]? = some (some (.ref f)) ∧ H f = some (LamO f (mk c') e) ∧
  t σ H fun vs H1 => H1 f = some (LamO f (mk c') e) ∧ H1 (mk c').c = some (CodeO (mk c').c (mk c').qual) ∧ sp vs H1 Q (E σ)
section
variable {X : Cx} {CX : CXT} {mk : Addr → NF} {ps : List Str} {i j k : Nat} {x : Str} {sp : Sp} {E : L2.St → XK} {t : TA} {e b : Expr} {es : List Expr} {p pos : Pos}
theorem lamAt {pins : List (Addr × Obj)} {σ : L2.St} {H : Hp} {s : Shared} {f : Addr} {F : NF} (I : Inv X pins σ H s) (z : H f = some (LamO f F b)) : PySem.W.FnAt f s.heap := by
  obtain ⟨od, sl, pm, ctv, ho⟩ := lamO_at I.hok z
  exact ⟨_, od, _, sl, ho⟩
theorem pe_calll (Fn : ∀ f c', LOk X.prog X.w X.K X.mg X.base CX k f (mk c') b ps sp) (hr : Room j X.A) (hk : k ≤ j) (hx : ∀ σ, PassesAt CX X σ (E σ)) (hN : X.N[i]? = some x) (hv : Vis X.env.scope x) (ha : PA X (e :: es) t)
    (hd : (x == ("__debug__" : Str)) = false := by decide) (hcd : (x == ("__classdict__" : Str)) = false := by decide)
    (he : starEach (e :: es) X.env = (false, eval e X.env) :: starEach es X.env := by rfl) (hpl : (backTo pos (starEach es X.env)).any (·.1) = false := by rfl) :
    PE X (.Call (.Name x p) (e :: es) [] pos) (tCallL mk b i sp E t) := by
  refine ⟨fun pins s σ H Q I h => ?_⟩
  obtain ⟨f, c', hs, hf, ht⟩ := h
  refine wpAny_Call_Name_kw (thn ((pe_var (pos := p) hN hv hd hcd).run pins s σ H (fun v H1 => v = .ref f ∧ H1 = H) I ⟨.ref f, hs, rfl, rfl⟩) fun u s1 ⟨v, H1, I1, r1, q1⟩ => ?_)
  obtain ⟨ev, eH⟩ := q1
  subst ev
  rw [eH] at I1
  obtain rfl : u = Value.ref f := r1
  refine PySem.W.callWith_F (first := []) (lamAt I1 hf) (thn (ha.run pos pins s1 σ H _ I1 ht) fun us s2 ⟨vs, H2, I2, r, h1, h2, q⟩ => ⟨lamAt I2 h1, ?_⟩) he hpl
  show wpAny _ _ (call (.ref f) us) _ _ _
  refine wpAny_call (codeAny_mono ((Fn f c').run X.A X.stack s2 H2 us vs _ (E σ) (hr.mono hk) I2.env0 h1 h2 r q) fun r s' hq => ?_)
  cases r with
  | error e => exact hx σ pins H2 s2 e s' I2 hq
  | ok fl =>
    cases fl with
    | ret u => exact I2.after hq
    | next => exact False.elim hq
    | brk => exact False.elim hq
    | cont => exact False.elim hq
end
/-! ### over data -/
def φL (mk : Addr → NF) (e : Expr) : V → Hp → Prop := fun v H => ∃ f c', v = .ref f ∧ H f = some (LamO f (mk c') e) ∧ H (mk c').c = some (CodeO (mk c').c (mk c').qual)
theorem set_self {α : Type} {l : List α} {j : Nat} {x : α} (h : l[j]? = some x) : l.set j x = l := by
  apply List.ext_getElem?; intro i
  rw [List.getElem?_set]
  by_cases e : j = i
  · subst e
    rw [if_pos rfl, if_pos (List.getElem?_eq_some_iff.mp h).1, h]
  · rw [if_neg e]
section
variable {K : PySem.W.Frag} {F F' H H' H0 H1 : Hp} {L : List Addr} {σ σ' : L2.St} {ρ ρ' : List Sl} {M M' M0 M1 M2 M3 Mn : Ms}
variable {te ta tb tc ti td ty tx tv : TE} {tt : TT} {tr : TA} {s s1 s2 : Sl} {ss : List Sl} {d d1 d2 d3 : PyData} {ds es : List PyData} {D : Ends} {tu tw tz : TS} {p q C C0 : Addr} {m : Str} {E : L2.St → XK} {Q : VK} {mk : Addr → NF} {e : Expr} {i : Nat}
theorem ev_lam {P : Addr} {nm : Nat → Nat → Str} (hp : (P, MO.tab nm) ∈ M) (hc : ∀ c, (mk c).c = c) : Ev K (tLamE P nm mk e) ρ M (.pr (φL mk e)) M := fun F L σ H o Q q => by
  obtain ⟨ps, h1, h2, h3⟩ := o.ob _ hp
  refine ⟨ps, h1, h2, fun pos cv z => (h3 pos cv z).imp fun c ⟨e1, e2⟩ => ⟨e1, (hid_some e2).2⟩, fun f c' H1 ps' hs hP ht hn hc' hf hl hcd => ?_⟩
  have s1 : Same (hid [P] H) H1 := fun a x z => by
    obtain ⟨n, z2⟩ := hid_some z
    exact hs a x (by simpa using n) z2
  have fr : f ∉ L ++ ad M := o.fresh hf
  have fc : c' ∉ L ++ ad M := by
    rcases hc' with z | ⟨pos, z⟩
    · exact o.fresh z
    · obtain ⟨c, e1, e2⟩ := h3 pos _ z
      cases e1
      exact (hid_some e2).1
  obtain ⟨j, hj⟩ := List.mem_iff_getElem?.mp hp
  have vis : ∀ a x, hid (L ++ ad M) H a = some x → hid (L ++ ad M) H1 a = some x := fun a x z => by
    obtain ⟨n, z2⟩ := hid_some z
    refine (hid_out n).trans (hs a x (fun w => n (List.mem_append_right _ ?_)) z2)
    rw [w]; exact List.mem_map.mpr ⟨_, hp, rfl⟩
  have o1 : Ok K F L σ H1 ρ M := by
    have z := o.change (y := .tab nm) hj s1 ⟨ps', hP, ht, fun pos cv w => ?_⟩ fun a ha na w => ?_
    · rw [set_self hj] at z; exact z
    · rcases hn pos cv w with w | ⟨w, w2⟩
      · obtain ⟨c, e1, e2⟩ := h3 pos cv w
        exact ⟨c, e1, vis _ _ e2⟩
      · refine ⟨c', w, (hid_out fc).trans ?_⟩
        rw [w2]; exact hcd
    · cases e3 : H a with
      | none => exact o.lv a ha e3
      | some y => rw [hs a y na e3] at w; cases w
  refine q _ H1 o1 rfl (fun a x z => ?_) fun H2 s2 => ⟨f, c', rfl, s2 _ _ ((hid_out fr).trans hl), ?_⟩
  · obtain ⟨n, z2⟩ := hid_some z
    refine hs a x (fun w => n ?_) z2
    rw [w]; exact List.mem_map.mpr ⟨_, hp, rfl⟩
  · rw [hc]
    exact s2 _ _ ((hid_out fc).trans hcd)
theorem pr_get {φ : V → Hp → Prop} (o : Ok K F L σ H ρ M) (h : ρ[i]? = some (.pr φ)) : ∃ v, σ[i]? = some (some v) ∧ φ v (hid (L ++ ad M) H) := by
  obtain ⟨v, h1, h2⟩ := o.get h (fun z => nomatch z)
  exact ⟨v, h1, h2 _ fun _ _ z => z⟩
theorem ev_varP {φ : V → Hp → Prop} (h : ρ[i]? = some (.pr φ)) : Ev K (tVar i) ρ M (.pr φ) M := fun F L σ H o Q q => by
  obtain ⟨v, h1, h2⟩ := o.get h (fun z => nomatch z)
  exact ⟨v, h1, q v H o rfl (fun a x z => (hid_some z).2) h2⟩
theorem callL {ss : List Sl} {sp : Sp} (h : ρ[i]? = some (.pr (φL mk e))) (ha : EvA K tr ρ M ss M1) (o : Ok K F L σ H ρ M) (k : ∀ vs H1, Ok K F L σ H1 ρ M1 → ad M1 = ad M → Same (hid (ad M) H) H1 → Paired (SlOk K (hid (L ++ ad M) H1)) vs ss → sp vs H1 Q (E σ)) : tCallL mk e i sp E tr σ H Q := by
  obtain ⟨v, h1, f, c', ev, h2, h3⟩ := pr_get o h
  subst ev
  refine ⟨f, c', h1, (hid_some h2).2, ha F L σ H o _ fun vs H1 o1 e1 a1 x1 => ?_⟩
  have vis : Same (hid (L ++ ad M) H) H1 := fun a x z => a1 a x (hid_sub (fun b hb => List.mem_append_right _ hb) _ _ z)
  exact ⟨vis _ _ h2, vis _ _ h3, k vs H1 o1 e1 a1 x1⟩
theorem ev_callL {R : Ms → List Sl → PyData → Ms → Prop} {r : PyData} (h : ρ[i]? = some (.pr (φL mk e))) (ha : EvA K tr ρ M ss M1) (M0 Mn : Ms) (hn : ad Mn = ad M0) (w : (ad M1).Nodup → Sw M0 Mn M1 M2) (hR : R M0 ss r Mn) : Ev K (tCallL mk e i (spMs K R) E tr) ρ M (.dat r) M2 := fun F L σ H o Q q => callL h ha o fun vs H1 o1 e1 a1 x1 => by
  have w' := w o1.nd
  have sub : ∀ a, a ∈ ad M0 → a ∈ ad M1 := fun a ha => by
    obtain ⟨y, hy, e⟩ := List.mem_map.mp ha
    exact List.mem_map.mpr ⟨y, w'.sub.subset hy, e⟩
  refine ⟨L ++ ad M1, M0, ss, r, Mn, fun a ha => o1.there ha, fun a ha => List.mem_append_right _ (sub a ha), List.Nodup.sublist (w'.sub.map _) o1.nd, by rw [e1]; exact x1, fun x hx => o1.ob x (w'.sub.subset hx), hR, hn, fun v H2 s2 hm hv => ?_⟩
  obtain ⟨o2, s3⟩ := swap_ok o1 w s2 hm hn
  exact q v H2 o2 (w'.ea.trans e1) (chain2 e1 a1 s3) (by rw [← e1]; exact hv)
theorem x_callL {R : Ms → List Sl → Addr → Prop} (h : ρ[i]? = some (.pr (φL mk e))) (ha : EvA K tr ρ M ss M) (M0 : Ms) (w : M0.Sublist M) (hR : R M0 ss C) (hE : ∀ H1, Ok K F L σ H1 ρ M → E σ (.ref C) none H1) (o : Ok K F L σ H ρ M) : tCallL mk e i (spE K R) E tr σ H Q := callL h ha o fun vs H1 o1 e1 a1 x1 => x_sp o1 M0 w x1 hR hE
end
/-! ### a lambda's body, over data -/
section
variable {P : Program} {w : World} {K : PySem.W.Frag} {mg : Str → Option Value} {base : Heap} {N ps : List Str} {F : NF} {e : Expr} {f : Addr} {k : Nat}
theorem startF_start (N : List Str) (vs : List V) : startF N vs [] = L2.start N vs := by
  unfold startF L2.start
  simp
theorem lokMs {R : Ms → List Sl → PyData → Ms → Prop} (S : NScope N ps [] F.scope) (hcl : F.cl = []) (hb : ∀ (pm ctv : Value) (us : List Value), us.length = ps.length → bindArgs (PySem.W.kla_fn F.name F.qual F.params e F.scope F.cl pm (.ref F.c) ctv) ⟨us, []⟩ = pure (ps.zip us)) (hl : ∀ M ss r M', R M ss r M' → ss.length = ps.length)
    (hbody : ∀ A outer s H E, Room k (A.deeper (envF F f s.heap.objs.size)) → ∃ t, PE (ncx (L2N.CX P w) P w K mg base N F f A outer s H E) e t ∧ ∀ M ss r M', R M ss r M' → Ev K t (st0 N ss) M (.dat r) M') :
    LOk P w K mg base (L2N.CX P w) (k + 1) f F e ps (spMs K R) := by
  refine lok_of S hcl hb (fun vs H Q E h => ?_) fun A outer s H vs Q E hr h => ?_
  · obtain ⟨L, M, ss, r, M', lv, hL, nd, hp, hm, hR, _⟩ := h
    rw [paired_len hp]; exact hl _ _ _ _ hR
  · obtain ⟨L, M, ss, r, M', lv, hL, nd, hp, hm, hR, ea, q⟩ := h
    obtain ⟨t, h1, h2⟩ := hbody A outer s H E hr
    have sub : ∀ G : Hp, Same (hid L G) (hid (L ++ ad M) G) := fun G => hid_sub fun a ha => by
      rcases List.mem_append.mp ha with z | z
      · exact z
      · exact hL a z
    refine ⟨t, h1, ?_⟩
    rw [startF_start]
    refine h2 M ss r M' hR (hid (ad M) H) L _ H (ok_start (Paired.mapP hp fun _ _ z => z.mono (sub H)) lv (fun y hy => (hm y hy).mono (sub H) rfl) nd (hid_le _ _) fun a ha => hid_in ha) _ fun v H1 o1 e1 a1 x1 => ?_
    exact q v H1 a1 (o1.mobs fun x hx => hx) (Dp.mono (hid_sub fun _ z => List.mem_append_left _ z) x1)
theorem lokE {R : Ms → List Sl → Addr → Prop} (S : NScope N ps [] F.scope) (hcl : F.cl = []) (hb : ∀ (pm ctv : Value) (us : List Value), us.length = ps.length → bindArgs (PySem.W.kla_fn F.name F.qual F.params e F.scope F.cl pm (.ref F.c) ctv) ⟨us, []⟩ = pure (ps.zip us)) (hl : ∀ M ss C, R M ss C → ss.length = ps.length)
    (hbody : ∀ A outer s H E, Room k (A.deeper (envF F f s.heap.objs.size)) → ∃ t, PE (ncx (L2N.CX P w) P w K mg base N F f A outer s H E) e t ∧ ∀ M ss C, R M ss C → ∀ (F : Hp) L σ H (Q : VK), (∀ H1, Ok K F L σ H1 (st0 N ss) M → E (.ref C) none H1) → Ok K F L σ H (st0 N ss) M → t σ H Q) :
    LOk P w K mg base (L2N.CX P w) (k + 1) f F e ps (spE K R) := by
  refine lok_of S hcl hb (fun vs H Q E h => ?_) fun A outer s H vs Q E hr h => ?_
  · obtain ⟨L, M, ss, C, lv, hL, nd, hp, hm, hR, _⟩ := h
    rw [paired_len hp]; exact hl _ _ _ hR
  · obtain ⟨L, M, ss, C, lv, hL, nd, hp, hm, hR, q⟩ := h
    obtain ⟨t, h1, h2⟩ := hbody A outer s H E hr
    have sub : ∀ G : Hp, Same (hid L G) (hid (L ++ ad M) G) := fun G => hid_sub fun a ha => by
      rcases List.mem_append.mp ha with z | z
      · exact z
      · exact hL a z
    refine ⟨t, h1, ?_⟩
    rw [startF_start]
    refine h2 M ss C hR (hid (ad M) H) L _ H _ (fun H1 o1 => q H1 o1.fr (o1.mobs fun x hx => hx)) (ok_start (Paired.mapP hp fun _ _ z => z.mono (sub H)) lv (fun y hy => (hm y hy).mono (sub H) rfl) nd (hid_le _ _) fun a ha => hid_in ha)
end
end Wm

/-! isinstance of a caught error, == by an own __eq__, the law's loop with a code table, list.pop, repr of a bool. -/
namespace Wm
open PySem PySem.Spec PyProof.Rows L2
section
variable {K : PySem.W.Frag} {F F' H H' H0 H1 : Hp} {L : List Addr} {σ σ' : L2.St} {ρ ρ' : List Sl} {M M' M0 M1 M2 M3 Mn A B : Ms}
variable {te ta tb tc ti td ty tx tv : TE} {tt : TT} {tr tr' : TA} {s s1 s2 : Sl} {ss : List Sl} {d d1 d2 d3 : PyData} {ds es : List PyData} {D : Ends} {tu tw tz : TS} {p q C C0 : Addr} {fs : List (Str × Sl)} {m : Str} {E : XK} {Q : VK}
/-! ### isinstance of the error that is handled -/
theorem ev_isE {i : Nat} {D a c : Addr} {b : Bool} (he : ρ[i]? = some (.loc (.ref a))) (hk : PySem.W.kitOne K (.ref D) (.ref c) = some b) : Ev K (tCB (rIsE K D a) (tCons (tVar i) (tCons (tC (.ref c)) tNil))) ρ M (.dat (.bool b)) M := fun F L σ H o Q q => by
  obtain ⟨v, h1, h2⟩ := o.get he (fun z => nomatch z)
  have e : v = .ref a := h2
  subst e
  exact ⟨_, h1, .ref c, .ref c, b, rfl, fun u r => r, hk, q _ H o rfl (hid_le _ _) (.bl b)⟩
theorem ev_isET {i : Nat} {D a : Addr} {n : String} {b : Bool} (he : ρ[i]? = some (.loc (.ref a))) (hk : PySem.W.kitOne K (.ref D) (.type n) = some b) : Ev K (tCB (rIsE K D a) (tCons (tVar i) (tCons (tC (.ty n)) tNil))) ρ M (.dat (.bool b)) M := fun F L σ H o Q q => by
  obtain ⟨v, h1, h2⟩ := o.get he (fun z => nomatch z)
  have e : v = .ref a := h2
  subst e
  exact ⟨_, h1, .ty n, .type n, b, rfl, fun u r => r, hk, q _ H o rfl (hid_le _ _) (.bl b)⟩
end
/-! ### == by an own __eq__ -/
def rEqOwn (K : PySem.W.Frag) (C : Addr) (sp : Sp) (E : XK) : R2 := fun x y H Q => ∃ a dx fs b, x = .ref a ∧ y = .ref b ∧ H a = some (.ins C dx fs) ∧ ((∃ dy gs, H b = some (.ins C dy gs)) ∨ (∃ xs, Rd H b (.lst xs)) ∧ PySem.W.subIn K (.type "list") (.ref C) = some false) ∧ sp [x, y] H (fun v H' => ∃ c, v = .bl c ∧ Q (.bl c) H') E
theorem op_eqOwn {X : Cx} {CX : CXT} {C f : Addr} {fd : FuncData} {ps : List Str} {sp : Sp} {E : XK} {k : Nat} (F : FnOk X.prog X.w X.K X.mg X.base CX k f fd ps sp) (hr : Room k X.A)
    (hs : PySem.W.findIn X.K (.ref C) "__eq__" = some (some (.ref f))) (hf : PySem.W.isFn X.K (.ref f) = true) (hb : Binds X.K fd ps []) (hx : Passes CX X E) : OpR X (compareOp .Eq) (rEqOwn X.K C sp E) := by
  intro pins s σ H x y v u Q I rx ry h
  obtain ⟨a, dx, fs, b, rfl, rfl, ha, hy, hsp⟩ := h
  cases (show v = Value.ref a from rx)
  cases (show u = Value.ref b from ry)
  obtain ⟨mA, J, _⟩ := ins_get I.hok ha
  obtain ⟨od, J, _⟩ := J.look
  obtain ⟨m, hF⟩ := I.fr
  obtain ⟨tb, LB, hn⟩ : ∃ tb, PySem.W.Looks (model X.prog X.w) s.heap (typeOf (.ref b)) tb ∧ PySem.W.notFirst X.K C tb = true := by
    rcases hy with ⟨dy, gs, hb⟩ | ⟨⟨xs, hb⟩, hl⟩
    · obtain ⟨mB, J', _⟩ := ins_get I.hok hb
      obtain ⟨od', J', _⟩ := J'.look
      exact ⟨.ref C, J'.type, by simp [PySem.W.notFirst]⟩
    · refine ⟨.type "list", ?_, by simp [PySem.W.notFirst, hl]⟩
      rcases hb with hb | ⟨o, hb⟩
      · obtain ⟨P, Z, p, _⟩ := kit_of I (show RelV (.ref b) (Value.ref b) from rfl) (.base (.lst hb))
        exact Z.ty _ _ I.kIn p
      · obtain ⟨P, Z, p, _⟩ := kit_of I (show RelV (.ref b) (Value.ref b) from rfl) (.base (.frz hb))
        exact Z.ty _ _ I.kIn p
  show wpAny _ _ (richCompare .Eq (.ref a) (.ref b)) _ _ _
  refine PySem.W.cmp_K (op := .Eq) (tb := tb) hr.units0 hF I.ok.mod.kin J LB hn hs hf ?_
  refine wpAny_mono (run_fn (us := [.ref a, .ref b]) (vs := [.ref a, .ref b]) (dvs := []) F hr hb .nil hx I (.cons rfl (.cons rfl .nil)) hsp) (fun w s' z => ?_) fun _ _ x => x
  obtain ⟨z', H', I', rz, c, ez, qz⟩ := z
  subst ez
  exact SlX.cmpback rz ⟨_, H', I', rz, qz⟩
section
variable {K : PySem.W.Frag} {F F' H H' H0 H1 : Hp} {L : List Addr} {σ σ' : L2.St} {ρ ρ' : List Sl} {M M' M0 M1 M2 M3 Mn A B : Ms}
variable {te ta tb tc ti td ty tx tv : TE} {tt : TT} {tr tr' : TA} {s s1 s2 : Sl} {ss : List Sl} {d d1 d2 d3 : PyData} {ds es : List PyData} {D : Ends} {tu tw tz : TS} {p q C C0 : Addr} {fs gs : List (Str × Sl)} {m : Str} {E E' : XK} {Q : VK} {R : Ms → List Sl → PyData → Ms → Prop}
theorem Sw.mid (hn : ad Mn = ad M0) (nd : (ad (A ++ M0 ++ B)).Nodup) : Sw M0 Mn (A ++ M0 ++ B) (A ++ Mn ++ B) := by
  have e : ∀ X : Ms, ad (A ++ X ++ B) = ad A ++ ad X ++ ad B := fun X => by simp [ad]
  refine ⟨(List.sublist_append_right A M0).trans (List.sublist_append_left ..), by rw [e, e, hn], fun x hx => ?_⟩
  rw [e] at nd
  obtain ⟨n1, n2, n3⟩ := List.nodup_append.mp nd
  obtain ⟨_, _, n4⟩ := List.nodup_append.mp n1
  rcases List.mem_append.mp hx with z | z
  · rcases List.mem_append.mp z with z | z
    · exact .inr ⟨List.mem_append_left _ (List.mem_append_left _ z), fun z2 => n4 x.1 (List.mem_map.mpr ⟨x, z, rfl⟩) x.1 z2 rfl⟩
    · exact .inl z
  · exact .inr ⟨List.mem_append_right _ z, fun z2 => n3 x.1 (List.mem_append_right _ z2) x.1 (List.mem_map.mpr ⟨x, z, rfl⟩) rfl⟩
/-- what == gets: y an instance that is told, or a list -/
inductive EqArg (C : Addr) (M : Ms) : Sl → Prop
  | ins {b : Addr} {gs : List (Str × Sl)} (h : (b, MO.ins C gs) ∈ M) : EqArg C M (.loc (.ref b))
  | lst (ds : List PyData) : EqArg C M (.dat (.list ds))
theorem eq_run {x y : V} {b : Bool} (hl : PySem.W.subIn K (.type "list") (.ref C) = some false) (o : Ok K F L σ H ρ M) (hx : x = .ref p) (hp : (p, MO.ins C fs) ∈ M) (hy : SlOk K (hid (L ++ ad M) H) y s) (ha : EqArg C M s) (M0 : Ms) (w : M0.Sublist M) (hR : R M0 [.loc (.ref p), s] (.bool b) M0)
    (q : ∀ H1, Ok K F L σ H1 ρ M → Same (hid (ad M) H) H1 → Q (.bl b) H1) : rEqOwn K C (spMs K R) E x y H Q := by
  subst hx
  obtain ⟨dx, gs, h1, h2⟩ := o.ob _ hp
  have sub : ∀ a, a ∈ ad M0 → a ∈ ad M := fun a ha => (w.map Prod.fst).subset ha
  have fin : ∀ {c : Addr}, y = .ref c → ((∃ dy gs, H c = some (.ins C dy gs)) ∨ (∃ xs, Rd H c (.lst xs)) ∧ PySem.W.subIn K (.type "list") (.ref C) = some false) → rEqOwn K C (spMs K R) E (.ref p) y H Q := fun {c} ec hc => by
    subst ec
    refine ⟨p, dx, gs, c, rfl, rfl, h1, hc, L ++ ad M, M0, _, .bool b, M0, fun a ha => o.there ha, fun a ha => List.mem_append_right _ (sub a ha), List.Nodup.sublist (w.map _) o.nd, .cons (show SlOk K _ (V.ref p) (.loc (.ref p)) from rfl) (.cons hy .nil), fun x hx => o.ob x (w.subset hx), hR, rfl, fun v H2 s2 hm hv => ?_⟩
    have ev := bl_of (K := K) (H := hid (L ++ ad M) H2) hv
    obtain ⟨o2, s3⟩ := swap_ok o (fun nd => Sw.same w nd) s2 hm rfl
    exact ⟨b, ev, q H2 o2 s3⟩
  cases ha with
  | @ins c gs2 hc =>
    obtain ⟨dy, gs3, g1, _⟩ := o.ob _ hc
    exact fin (show y = .ref c from hy) (.inl ⟨dy, gs3, g1⟩)
  | lst ds =>
    obtain ⟨c, xs, e, g1, _⟩ : ∃ c xs, y = .ref c ∧ Rd (hid (L ++ ad M) H) c (.lst xs) ∧ DpAll K (hid (L ++ ad M) H) xs ds := by
      have hy' : Dp K (hid (L ++ ad M) H) y (.list ds) := hy
      cases hy' with
      | lst h1 h2 => exact ⟨_, _, rfl, h1, h2⟩
    exact fin e (.inr ⟨⟨xs, Rd.mono (hid_le _ _) g1⟩, hl⟩)
theorem ev_eqOwn {b : Bool} (hl : PySem.W.subIn K (.type "list") (.ref C) = some false) (hx : Ev K ta ρ M (.loc (.ref p)) M) (hp : (p, MO.ins C fs) ∈ M) (hy : Ev K tb ρ M s M) (ha : EqArg C M s) (M0 : Ms) (w : M0.Sublist M) (hR : R M0 [.loc (.ref p), s] (.bool b) M0) :
    Ev K (tOp (rEqOwn K C (spMs K R) E) ta tb) ρ M (.dat (.bool b)) M := fun F L σ H o Q q =>
  hx.two hy o fun x y H2 o2 e2 a2 hx2 hy2 => eq_run hl o2 (show x = .ref p from hx2) hp hy2 ha M0 w hR fun H3 o3 a3 => q _ H3 o3 rfl (chain2 rfl a2 a3) (.bl b)
/-- .. with an instance just made -/
theorem ev_eqMake {b : Bool} {R' : List PyData → (Addr → List (Str × Sl)) → MO → Prop} {fO : Addr → List (Str × Sl)} {qO : MO} (hl : PySem.W.subIn K (.type "list") (.ref C) = some false) (hx : Ev K ta ρ M (.loc (.ref p)) M) (hp : (p, MO.ins C fs) ∈ M) (ha : EvA K tr ρ M (ds.map Sl.dat) M) (hR' : R' ds fO qO) (M0 : Ms) (w : M0.Sublist M)
    (hR : ∀ p' q', R (M0 ++ [(p', .ins C (fO q')), (q', qO)]) [.loc (.ref p), .loc (.ref p')] (.bool b) (M0 ++ [(p', .ins C (fO q')), (q', qO)])) :
    Ev K (tOp (rEqOwn K C (spMs K R) E) ta (tMake C (spI K C R') [] E' tr)) ρ M (.dat (.bool b)) M := fun F L σ H o Q q => hx F L σ H o _ fun x H1 o1 e1 a1 x1 => make_ok ha hR' o1 fun p' q' H2 hFp hFq o2 e2 a2 => by
  refine eq_run (M := M ++ [(p', .ins C (fO q')), (q', qO)]) hl o2 (show x = .ref p from x1) (List.mem_append_left _ hp) (s := .loc (.ref p')) rfl (.ins (List.mem_append_right _ List.mem_cons_self)) (M0 ++ [(p', .ins C (fO q')), (q', qO)]) (w.append (List.Sublist.refl _)) (hR p' q') fun H3 o3 a3 => ?_
  refine q _ H3 o3.forget rfl (fun a y e => ?_) (.bl b)
  obtain ⟨n, e'⟩ := hid_some e
  have e4 := a1 _ _ e
  have e5 := a2 _ _ (hid_of n e4)
  refine a3 _ _ (hid_of (fun z => ?_) e5)
  rw [show ad (M ++ [(p', .ins C (fO q')), (q', qO)]) = ad M ++ [p', q'] from List.map_append ..] at z
  rcases List.mem_append.mp z with z | z
  · exact n z
  · have e6 := hid_of n e4
    rcases List.mem_cons.mp z with z | z
    · rw [z, hFp] at e6; cases e6
    · rw [List.mem_singleton.mp z, hFq] at e6; cases e6
end
/-! ### list.pop, repr of a bool -/
theorem call_repr_bool {X : Cx} : CallR X (.builtin "repr") (fun xs H Q => ∃ b : Bool, xs = [.bl b] ∧ Q (.str (if b then "True" else "False")) H) := by
  intro pins s σ H xs us Q I r h
  obtain ⟨b, rfl, q⟩ := h
  obtain ⟨u, rfl, ru⟩ := r.one
  cases (show u = Value.bool b from ru)
  exact PySem.P.repr_of_bool ⟨.str _, H, I.tok _, ⟨_, rfl⟩, q⟩
section
variable {K : PySem.W.Frag} {F F' H H' H0 H1 : Hp} {L : List Addr} {σ σ' : L2.St} {ρ ρ' : List Sl} {M M' M0 M1 M2 M3 Mn A B : Ms}
variable {te ta tb tc ti td ty tx tv : TE} {tt : TT} {tr tr' : TA} {s s1 s2 : Sl} {ss : List Sl} {d d1 d2 d3 : PyData} {ds es : List PyData} {D : Ends} {tu tw tz : TS} {p q C C0 : Addr}
theorem ev_repr {b : Bool} (h : Ev K te ρ M (.dat (.bool b)) M) : Ev K (tCB (fun xs H Q => ∃ b : Bool, xs = [.bl b] ∧ Q (.str (if b then "True" else "False")) H) (tCons te tNil)) ρ M (.dat (.str (if b then "True" else "False"))) M := fun F L σ H o Q q => h F L σ H o _ fun x H1 o1 e1 a1 x1 =>
  ⟨b, by rw [bl_of x1], q _ H1 o1 e1 a1 (.str _)⟩
/-- l.pop(), as a statement -/
theorem s_pop {j : Nat} (ha : Ev K ta ρ M (.loc (.ref p)) M) (hj : M[j]? = some (p, .lst (ds ++ [d]))) (k : ∀ σ H, Ok K F L σ H ρ (M.set j (p, .lst ds)) → D.nx σ H) (o : Ok K F L σ H ρ M) : tDrop (tBM0 K "list" rPop ta) D σ H := ha F L σ H o _ fun x H1 o1 e1 a1 x1 => by
  have ex : x = .ref p := x1
  subst ex
  obtain ⟨vs, h1, h2⟩ := o1.ob _ (List.mem_of_getElem? hj)
  have hl : vs.length = ds.length + 1 := by rw [h2.length, List.length_append]; rfl
  obtain ⟨y, hy⟩ : ∃ y, vs[vs.length - 1]? = some y := ⟨vs[vs.length - 1]'(by omega), List.getElem?_eq_getElem (by omega)⟩
  refine ⟨.inl ⟨rfl, vs, SqL.of h1⟩, p, vs, y, rfl, rfl, h1, hy, k _ _ (o1.change hj (same_hid_upd (by simp)) ⟨_, upd_same, ?_⟩ (live_upd o1))⟩
  rw [hid_upd (List.mem_append_right _ (mem_ad hj))]
  have z := h2.take ds.length
  rw [List.take_left] at z
  rw [List.dropLast_eq_take, hl]
  exact z
/-- e.append(x), e a new list -/
theorem s_appNew (ha : EvN K ta ρ M ds M) (h : Ev K te ρ M (.dat d) M) (hz : ds.length < 1000000) (k : ∀ σ H, Ok K F L σ H ρ M → D.nx σ H) (o : Ok K F L σ H ρ M) : tDrop (tBM K "list" rAppend ta (tCons te tNil)) D σ H := ha F L σ H o _ fun p vs H1 hp o1 e1 a1 h1 h2 => by
  refine ⟨.inl ⟨rfl, vs, SqL.of h1⟩, h F (p :: L) σ H1 o1 _ fun y H2 o2 e2 a2 y2 => ?_⟩
  have pL : p ∉ ad M := fun z => by
    have := o.there (List.mem_append_right L z)
    exact this hp
  have h3 : H2 p = some (.lst vs) := a2 _ _ (hid_of pL h1)
  refine ⟨p, vs, y, rfl, rfl, h3, by rw [h2.length]; exact line_lt hz, k _ _ ?_⟩
  have vis : Same (hid ((p :: L) ++ ad M) H2) (hid (L ++ ad M) (upd H2 p (.lst (vs ++ [y])))) := fun b z e => by
    obtain ⟨n, e3⟩ := hid_some e
    have nb : b ≠ p := fun w => n (by rw [w]; exact List.mem_append_left _ List.mem_cons_self)
    refine hid_of (fun w => n ?_) (by rw [upd_ne nb]; exact e3)
    rcases List.mem_append.mp w with w | w
    · exact List.mem_append_left _ (List.mem_cons_of_mem _ w)
    · exact List.mem_append_right _ w
  refine ⟨Paired.mapP o2.sl fun _ _ q => q.mono vis, fun x hx => ?_, o2.nd, fun a z e => ?_, o2.fn, fun a ha => ?_⟩
  · have nx : x.1 ≠ p := fun w => pL (by rw [← w]; exact List.mem_map.mpr ⟨x, hx, rfl⟩)
    exact (o2.ob x hx).mono vis (upd_ne nx)
  · have na : a ≠ p := fun w => by
      rw [w] at e
      have := o.fr _ _ e
      rw [hp] at this; cases this
    rw [upd_ne na]; exact o2.fr a z e
  · by_cases na : a = p
    · rw [na, upd_same]; exact fun z => nomatch z
    · rw [upd_ne na]; exact o2.lv a (List.mem_cons_of_mem _ ha)
end
/-! ### methods that make a new list -/
def spMsN (K : PySem.W.Frag) (R : Ms → List Sl → List PyData → Ms → Prop) : Sp := fun vs H Q _ => ∃ L M ss rs M', (∀ a ∈ L, H a ≠ none) ∧ (∀ a ∈ ad M, a ∈ L) ∧ (ad M).Nodup ∧ Paired (SlOk K (hid L H)) vs ss ∧ (∀ x ∈ M, MOk K (hid L H) H x.1 x.2) ∧ R M ss rs M' ∧ ad M' = ad M ∧
  ∀ p us H1, H p = none → Same (hid (ad M) H) H1 → (∀ x ∈ M', MOk K (hid (p :: L) H1) H1 x.1 x.2) → H1 p = some (.lst us) → DpAll K (hid (p :: L) H1) us rs → Q (.ref p) H1
theorem okMsN {P : Program} {w : World} {K : PySem.W.Frag} {mg : Str → Option Value} {base : Heap} {x qual : Str} {st : Stmt} {f : Addr} {fd : FuncData} {N ps : List Str} {k : Nat} {R : Ms → List Sl → List PyData → Ms → Prop} (Fn : Fun K x qual st f fd) (S : FnScope N ps (defScope st)) (hl : ∀ M ss r M', R M ss r M' → ss.length = ps.length)
    (hb : ∀ cdv A outer s H E, Room k (A.deeper (envOfC qual (defScope st) s.heap.objs.size f cdv)) → ∃ te, PSs (cxOf CX0 P w K mg base N qual (defScope st) f cdv A outer s H E).nox (defBody st) (tRet te) ∧
      ∀ M ss rs M', R M ss rs M' → EvN K te (st0 N ss) M rs M') :
    FnOk P w K mg base CX0 (k + 1) f fd ps (spMsN K R) := by
  refine Fn.ok S (fun vs H Q E h => ?_) (fun cdv A outer s H vs Q E hr h => ?_)
  · obtain ⟨L, M, ss, r, M', lv, hL, nd, hp, hm, hR, _⟩ := h
    rw [paired_len hp]; exact hl _ _ _ _ hR
  · obtain ⟨L, M, ss, rs, M', lv, hL, nd, hp, hm, hR, ea, q⟩ := h
    obtain ⟨te, h1, h2⟩ := hb cdv A outer s H E hr
    have sub : ∀ G : Hp, Same (hid L G) (hid (L ++ ad M) G) := fun G => hid_sub fun a ha => by
      rcases List.mem_append.mp ha with z | z
      · exact z
      · exact hL a z
    refine ⟨_, h1, h2 M ss rs M' hR (hid (ad M) H) L _ H (ok_start (Paired.mapP hp fun _ _ z => z.mono (sub H)) lv (fun y hy => (hm y hy).mono (sub H) rfl) nd (hid_le _ _) fun a ha => hid_in ha) _ fun p us H1 hp1 o1 e1 a1 g1 g2 => ?_⟩
    refine q p us H1 hp1 a1 (fun x hx => (o1.ob x hx).mono (hid_sub fun _ z => List.mem_append_left _ z) rfl) g1 (DpAll.mono (hid_sub fun a ha => ?_) g2)
    rcases List.mem_cons.mp ha with z | z
    · rw [z]; exact List.mem_cons_self
    · exact List.mem_cons_of_mem _ (List.mem_append_left _ z)
section
variable {K : PySem.W.Frag} {F F' H H' H0 H1 : Hp} {L : List Addr} {σ σ' : L2.St} {ρ ρ' : List Sl} {M M' M0 M1 M2 M3 Mn A B : Ms}
variable {te ta tb tc ti td ty tx tv : TE} {tt : TT} {tr tr' : TA} {s s1 s2 : Sl} {ss : List Sl} {d d1 d2 d3 : PyData} {ds es rs : List PyData} {D : Ends} {tu tw tz : TS} {p q C C0 : Addr} {fs : List (Str × Sl)} {m : Str} {E : XK}
theorem evn_methMsN {R : Ms → List Sl → List PyData → Ms → Prop} (ho : Ev K ta ρ M (.loc (.ref p)) M) (hp : (p, MO.ins C fs) ∈ M) (hl : fs.lookup m = none) (ha : EvA K tr ρ M ss M) (M0 : Ms) (w : M0.Sublist M) (hR : R M0 (.loc (.ref p) :: ss) rs M0) : EvN K (tMeth C m (spMsN K R) [] E ta tr) ρ M rs M := fun F L σ H o Q q => ho F L σ H o _ fun x H0 o0 e0 a0 x0 => by
  have ex : x = .ref p := x0
  subst ex
  obtain ⟨dx, gs, h1, h2⟩ := o0.ob _ hp
  refine ⟨p, dx, gs, rfl, h1, FF.none h2 hl, ha F L σ H0 o0 _ fun vs H1 o1 e1 a1 x1 => ?_⟩
  have sub : ∀ a, a ∈ ad M0 → a ∈ ad M := fun a ha => (w.map Prod.fst).subset ha
  refine ⟨L ++ ad M, M0, _, rs, M0, fun a ha => o1.there ha, fun a ha => List.mem_append_right _ (sub a ha), List.Nodup.sublist (w.map _) o1.nd, by rw [List.append_nil]; exact .cons (show SlOk K _ (V.ref p) (.loc (.ref p)) from rfl) x1, fun x hx => o1.ob x (w.subset hx), hR, rfl, fun p' us H2 hp' s2 hm g1 g2 => ?_⟩
  have pn : p' ∉ L ++ ad M := o1.fresh hp'
  have vis : Same (hid (L ++ ad M) H1) (hid ((p' :: L) ++ ad M) H2) := fun b z e => by
    obtain ⟨n, e3⟩ := hid_some e
    refine hid_of (fun w => ?_) (s2 _ _ (hid_of (fun w => n (List.mem_append_right _ (sub b w))) e3))
    rcases List.mem_append.mp w with w | w
    · rcases List.mem_cons.mp w with w | w
      · rw [w, hp'] at e3; cases e3
      · exact n (List.mem_append_left _ w)
    · exact n (List.mem_append_right _ w)
  have s3 : Same (hid (ad M) H1) H2 := fun a x e => s2 a x (hid_sub sub _ _ e)
  have c3 := chain2 rfl (chain2 rfl a0 a1) s3
  have o2 : Ok K F (p' :: L) σ H2 ρ M := by
    refine ⟨Paired.mapP o1.sl fun _ _ q => q.mono vis, fun x hx => ?_, o1.nd, fun a z e => ?_, o1.fn, fun a ha => ?_⟩
    · rcases (Sw.same w o1.nd).mem x hx with z | ⟨_, z2⟩
      · exact hm x z
      · obtain ⟨y, e⟩ := (o1.ob x hx).there
        exact (o1.ob x hx).mono vis ((s2 _ _ (hid_of z2 e)).trans e.symm)
    · refine s3 a z (hid_of (fun w => ?_) (o1.fr a z e))
      rw [o1.fn a w] at e; cases e
    · rcases List.mem_cons.mp ha with w2 | w2
      · rw [w2, g1]; exact fun z => nomatch z
      · by_cases e : a ∈ ad M0
        · obtain ⟨y, hy, e2⟩ := List.mem_map.mp e
          obtain ⟨z, ez⟩ := (hm y hy).there
          rw [← e2, ez]; exact fun z => nomatch z
        · intro z
          cases e3 : H1 a with
          | none => exact o1.lv a w2 e3
          | some y => rw [s2 a y (hid_of e e3)] at z; cases z
  refine q p' us H2 ?_ o2 rfl c3 g1 g2
  cases e : H p' with
  | none => rfl
  | some y =>
    have z := (chain2 rfl a0 a1) p' y (hid_of (fun z => pn (List.mem_append_right _ z)) e)
    rw [hp'] at z; cases z
end
/-! ### the law's loop, a code table beside -/
section
variable {K : PySem.W.Frag} {F F' H H' H0 H1 : Hp} {L : List Addr} {σ σ' : L2.St} {ρ ρ' : List Sl} {M M' : Ms} {te : TE} {tu tv : TS} {D : Ends} {n : Nat}
theorem Ok.pickM (o : Ok K F L σ H ρ []) (hM : ∀ x ∈ M, x.1 ∈ L ∧ MOk K (hid L H) H x.1 x.2 ∧ F' x.1 = none) (nd : (ad M).Nodup) (sF : Same F' H) : Ok K F' L σ H ρ M := by
  have sub : ∀ a, a ∈ L ++ ad M → a ∈ L := fun a ha => by
    rcases List.mem_append.mp ha with z | z
    · exact z
    · obtain ⟨x, hx, e⟩ := List.mem_map.mp z
      rw [← e]; exact (hM x hx).1
  have e0 : L ++ ad ([] : Ms) = L := by simp
  refine ⟨Paired.mapP o.sl fun _ _ q => ?_, fun y hy => (hM y hy).2.1.mono (hid_sub sub) rfl, nd, sF, fun q hq => ?_, o.lv⟩
  · rw [e0] at q; exact q.mono (hid_sub sub)
  · obtain ⟨x, hx, e⟩ := List.mem_map.mp hq
    rw [← e]; exact (hM x hx).2.2
theorem q_bagsT {j : Nat} {bd : Nat → List PyData} {P : Addr} {nm : Nat → Nat → Str} (J : List Sl → Prop) (h : EvB K te ρ n bd) (h0 : J ρ)
    (hs : ∀ F' L' i p ρ (D' : Ends), i < n → J ρ → (∀ ρ M σ H, J ρ → (P, MO.tab nm) ∈ M → Ok K F' L' σ H ρ M → D'.nx σ H) → ∀ σ H, Ok K F' L' σ H (ρ.set j (.loc (.ref p))) [(p, .lst (bd i)), (P, .tab nm)] → tu D' σ H)
    (hd : ∀ ρ, J ρ → ∀ σ H, Ok K F L σ H ρ [] → tv D σ H) (o : Ok K F L σ H ρ [(P, .tab nm)]) : tSeq (tFor (iList K te) (gName j) tu) tv D σ H := h F (P :: L) σ H o.dropM _ fun a ps H1 sH1 hb o1 => by
  obtain ⟨b1, b2, b3, b4, b5, b6⟩ := hb
  have tab0 := o.ob (P, .tab nm) List.mem_cons_self
  have hP : H P ≠ none := by obtain ⟨x, e⟩ := tab0.there; rw [e]; exact fun z => nomatch z
  have hFP : F P = none := o.fn P (by simp [ad])
  have nPa : P ≠ a := fun z => hP (z ▸ b1)
  have nPp : P ∉ ps := fun z => hP (b2 P z)
  have hFp : ∀ p ∈ ps, F p = none := fun p hp => o.fr.free (b2 p hp)
  have tab1 : MOk K (hid (a :: (ps ++ (P :: L))) H1) H1 P (.tab nm) := by
    obtain ⟨x, e⟩ := tab0.there
    refine tab0.mono (fun b y e2 => ?_) ((sH1 _ _ e).trans e.symm)
    obtain ⟨n1, e3⟩ := hid_some e2
    refine hid_of (fun z => ?_) (sH1 _ _ e3)
    rcases List.mem_cons.mp z with z | z
    · rw [z, b1] at e3; cases e3
    · rcases List.mem_append.mp z with z | z
      · rw [b2 b z] at e3; cases e3
      · refine n1 ?_
        rcases List.mem_cons.mp z with z | z
        · exact List.mem_append_right _ (by simp [ad, z])
        · exact List.mem_append_left _ z
  refine ⟨a, rfl, ⟨ps.map V.ref, SqL.of b5⟩, for_list (K := K) (a := a) (xs := ps.map V.ref) (fun i σ H' => ∃ ρ L2, J ρ ∧ (∀ x, x ∈ a :: (ps ++ (P :: L)) → x ∈ L2) ∧ Ok K F L2 σ H' ρ [] ∧ H' a = some (.lst (ps.map V.ref)) ∧ MOk K (hid L2 H') H' P (.tab nm) ∧ ∀ k (p : Addr), i ≤ k → ps[k]? = some p → MOk K (hid L2 H') H' p (.lst (bd k)))
    ⟨ρ, a :: (ps ++ (P :: L)), h0, fun _ z => z, o1, b5, tab1, fun k p _ hk => b6 k p hk⟩ (fun i σ H' _ ⟨_, _, _, _, _, ha, _⟩ => SqL.of ha) ?_ ?_⟩
  · rintro i x σ2 H2 hx ⟨ρ2, L2, hJ, hL, o2, ha, ht, hm⟩
    rw [List.getElem?_map] at hx
    cases hp : ps[i]? with
    | none => rw [hp] at hx; cases hx
    | some p =>
      rw [hp] at hx
      have ex : x = .ref p := (Option.some.inj hx).symm
      subst ex
      have pm : p ∈ ps := List.mem_of_getElem? hp
      have hi : i < n := by rw [← b4]; exact (List.getElem?_eq_some_iff.mp hp).1
      have pL : p ∈ L2 := hL p (List.mem_cons_of_mem _ (List.mem_append_left _ pm))
      have PL : P ∈ L2 := hL P (List.mem_cons_of_mem _ (List.mem_append_right _ List.mem_cons_self))
      have nap : a ≠ p := fun e => by rw [List.nodup_cons] at b3; rw [e] at b3; exact b3.1 pm
      have npP : p ≠ P := fun e => nPp (e ▸ pm)
      have o3 : Ok K (hid [p, P] H2) L2 (σ2.set j (some (.ref p))) H2 (ρ2.set j (.loc (.ref p))) [(p, .lst (bd i)), (P, .tab nm)] := by
        refine Ok.pickM (Ok.set (s := .loc (.ref p)) o2 rfl) (fun x hx => ?_) (by simp [ad, npP]) (hid_le _ _)
        rcases List.mem_cons.mp hx with z | z
        · rw [z]; exact ⟨pL, hm i p (Nat.le_refl _) hp, hid_in (by simp)⟩
        · rw [List.mem_singleton.mp z]; exact ⟨PL, ht, hid_in (by simp)⟩
      refine hs (hid [p, P] H2) L2 i p ρ2 _ hi hJ (fun ρ3 M3 σ3 H3 hJ3 hM3 o4 => ?_) _ _ o3
      have o5 := o4.dropM
      have sF : Same F (hid [p, P] H2) := fun b y e => hid_of (fun z => by
        rcases List.mem_cons.mp z with z | z
        · rw [z, hFp p pm] at e; cases e
        · rw [List.mem_singleton.mp z, hFP] at e; cases e) (o2.fr b y e)
      refine ⟨ρ3, ad M3 ++ L2, hJ3, fun x hx => List.mem_append_right _ (hL x hx), o5.unfr sF, o4.fr _ _ (hid_of (by simp [nap, Ne.symm nPa]) ha), (o4.ob _ hM3).mono (hid_sub fun a ha => ?_) rfl, fun k q hk hq => ?_⟩
      · rcases List.mem_append.mp ha with z | z
        · exact List.mem_append_right _ z
        · exact List.mem_append_left _ z
      have nqp : q ≠ p := fun e => by
        rw [List.nodup_cons] at b3
        have h1 := hq
        rw [e] at h1
        have := (List.getElem?_inj (List.getElem?_eq_some_iff.mp hp).1 b3.2).mp (hp.trans h1.symm)
        omega
      have nqP : q ≠ P := fun e => nPp (e ▸ List.mem_of_getElem? hq)
      refine (hm k q (by omega) hq).mono (fun b y e => ?_) ?_
      · obtain ⟨n1, e1⟩ := hid_some e
        have nb : b ≠ p := fun z => n1 (by rw [z]; exact pL)
        have nB : b ≠ P := fun z => n1 (by rw [z]; exact PL)
        have e2 : hid [p, P] H2 b = some y := hid_of (by simp [nb, nB]) e1
        refine hid_of (fun z => ?_) (o4.fr _ _ e2)
        rcases List.mem_append.mp z with z | z
        · rw [o4.fn b z] at e2; cases e2
        · exact n1 z
      · obtain ⟨z, ez⟩ := (hm k q (by omega) hq).there
        rw [ez]; exact o4.fr _ _ (hid_of (by simp [nqp, nqP]) ez)
  · rintro σ2 H2 ⟨ρ2, L2, hJ, hL, o2, _, _⟩
    exact hd ρ2 hJ σ2 H2 (o2.less fun x hx => hL x (List.mem_cons_of_mem _ (List.mem_append_right _ (List.mem_cons_of_mem _ hx))))
end
/-- what the law promises, its own table of code objects empty -/
def spLawT (K : PySem.W.Frag) (P : Addr) : Sp := fun vs H Q _ => ∃ (a : Addr) (ns : List Int), vs = [.ref a] ∧ SqL K H a (ns.map V.int) ∧ H P = some (.tbl #[]) ∧ ns.length ≤ 63 ∧ ∀ H', Q (.bl true) H'
theorem okLawT {P : Program} {w : World} {K : PySem.W.Frag} {mg : Str → Option Value} {base : Heap} {st : Stmt} {x : Str} {f c T : Addr} {dV kV doc pm ct oc : Value} {an od : Option Addr} {osl : Array (Option Value)} {N ps : List Str} {k : Nat} {nm : Nat → Nat → Str}
    (lk : K.lookup f = some ⟨oc, od, .func (PySem.W.fnOf x x (defArgs st) (defBody st) (defScope st) dV kV doc pm an (.ref c) ct), osl⟩) (hcd : PySem.W.codeIn K (.ref c) x = true) (S : FnScope N ps (defScope st)) (hl : ps.length = 1)
    (hb : ∀ A outer s H E, Room k (A.deeper (envOfC x (defScope st) s.heap.objs.size f (.ref c))) → ∃ t, PSs (cxOf CX0 P w K mg base N x (defScope st) f (.ref c) A outer s H E).nox (defBody st) t ∧
      ∀ xs : List Int, xs.length ≤ 63 → ∀ (F : Hp) L σ H (D : Ends), (∀ H', D.rt (.bl true) H') → Ok K F L σ H (st0 N [.dat (dScr xs)]) [(T, .tab nm)] → t D σ H) :
    FnOk P w K mg base CX0 (k + 1) f (PySem.W.fnOf x x (defArgs st) (defBody st) (defScope st) dV kV doc pm an (.ref c) ct) ps (spLawT K T) := by
  refine fn_of lk hcd S (fun vs H Q E h => ?_) fun A outer s H vs Q E hr h => ?_
  · obtain ⟨a, ns, rfl, _⟩ := h
    rw [hl]; rfl
  · obtain ⟨a, ns, rfl, hS, hT, hl, q⟩ := h
    obtain ⟨t, h1, h2⟩ := hb A outer s H E hr
    refine ⟨t, h1.nox, h2 ns hl (hid [T] H) [] _ H _ q (ok_start (.cons ?_ .nil) (fun p hp => by simp at hp) (fun x hx => ?_) (by simp [ad]) (hid_le _ _) (fun p hp => hid_in (by simpa [ad] using hp)))⟩
    · refine Dp.scr ?_
      rcases hS with hS | hS
      · refine .inl ?_
        rcases hS with hS | ⟨o, hS⟩
        · refine .inl (hid_of (fun z => ?_) hS)
          have e : a = T := by simpa [ad] using z
          rw [e, hT] at hS; cases hS
        · refine .inr ⟨o, hid_of (fun z => ?_) hS⟩
          have e : a = T := by simpa [ad] using z
          rw [e, hT] at hS; cases hS
      · exact .inr hS
    · have e : x = (T, .tab nm) := by simpa using hx
      subst e
      refine ⟨#[], hT, True.intro, fun pos cv z => ?_⟩
      have z' : codeAmong pos [] = some cv := z
      simp [codeAmong] at z'
end Wm

/-! a search deed by deed: what the walks need besides. -/
namespace Wm
open PySem PySem.Spec PyProof.Rows L2
/-- what isinstance asks of a class whose instances it gets; the class in the middle of == -/
structure IsC (K : PySem.W.Frag) (C : Addr) : Prop where
  cl : Cls K C
  ha : PySem.W.findIn K (.ref C) "__class__" = some (some (.builtin "object.__class__"))
  hn : PySem.W.specialIn K (.builtin "object.__class__") "__get__" = some (some (.builtin "getset_descriptor.__get__"))
  ht : PySem.W.takesIn K (.builtin "object.__class__") = some true
  hm : PySem.W.mroIn K C (.type "object") = some true
  ks : PySem.W.kitOne K (.ref C) (.ref C) = some true
  kl : PySem.W.kitOne K (.type "list") (.ref C) = some false
  sl : PySem.W.subIn K (.type "list") (.ref C) = some false
theorem takes_never {X : Cx} : L2N.Takes X (fun _ _ _ _ => False) := fun _ _ ⟨_, _, _, _, _, _, _, _, _, _, _, _, _, _, _, _, w⟩ => w.elim
/-- the suite of a clause that holds an error of an own class -/
theorem suite_ex {X : Cx} {K : PySem.W.Frag} {oe : Obj} {cls : Value} {d : Option Addr} {ss : List Stmt} {t : Addr → TS} (hz : L2N.Zn cls d oe) (h : ∀ C, ExcC K C → L2N.Zn (.ref C) none oe → PSs X ss (t C)) : PSs X ss (fun D σ H => ∃ C, cls = .ref C ∧ d = none ∧ ExcC K C ∧ t C D σ H) :=
  ⟨fun pins s σ H D I ⟨C, e1, e2, xc, ht⟩ => by subst e1 e2; exact (h C xc hz).run pins s σ H D I ht⟩
section
variable {X : Cx} {K' : PySem.W.Frag} (hK : X.K = K')
include hK
theorem w_isE {a D : Addr} {oe : Obj} {pn : List (Addr × Obj)} (C : ExcC K' D) (hz : L2N.Zn (.ref D) none oe) (hf : ∃ vs, oe.data = .fields vs) : CallR (X.suite a ((a, oe) :: pn)) (.builtin "isinstance") (rIsE K' D a) := by
  subst hK; exact call_isE C hz.zc hf
theorem wi_listX {tg l : Expr} {tl : TE} (hl : PE X l tl) : PIX X tg l (iList K' tl) := hK ▸ pi_listX hl
theorem w_eqOwn {CX : CXT} {C f : Addr} {fd : FuncData} {ps : List Str} {sp : Sp} {E : XK} {k : Nat} (F : FnOk X.prog X.w X.K X.mg X.base CX k f fd ps sp) (hr : Room k X.A)
    (hs : PySem.W.findIn X.K (.ref C) "__eq__" = some (some (.ref f))) (hf : PySem.W.isFn X.K (.ref f) = true) (hb : Binds X.K fd ps []) (hx : Passes CX X E) : OpR X (compareOp .Eq) (rEqOwn K' C sp E) := by
  subst hK; exact op_eqOwn F hr hs hf hb hx
end
section
variable {P : Program} {w : World} {K : PySem.W.Frag} {mg : Str → Option Value} {base : Heap} {CX : CXT} {k : Nat} {f : Addr} {F : NdefX.NF} {e : Expr} {ps : List Str} {sp sp' : Sp}
theorem lok_or (a : LOk P w K mg base CX k f F e ps sp) (b : LOk P w K mg base CX k f F e ps sp') : LOk P w K mg base CX k f F e ps (fun vs H Q E => sp vs H Q E ∨ sp' vs H Q E) :=
  ⟨fun vs H Q E h => h.elim (a.len _ _ _ _) (b.len _ _ _ _), fun A outer s H us vs Q E hr e0 hf hc r h => h.elim (a.run A outer s H us vs Q E hr e0 hf hc r) (b.run A outer s H us vs Q E hr e0 hf hc r)⟩
theorem FnOk.imp {fd : FuncData} (a : FnOk P w K mg base CX k f fd ps sp) (h : ∀ vs H Q E, sp' vs H Q E → sp vs H Q E) : FnOk P w K mg base CX k f fd ps sp' :=
  ⟨fun vs H Q E z => a.len _ _ _ _ (h _ _ _ _ z), fun A outer s H args us vs Q E hr e0 hb r z => a.run A outer s H args us vs Q E hr e0 hb r (h _ _ _ _ z)⟩
theorem fnOk_xor {fd : FuncData} {R R' : Ms → List Sl → Addr → Prop} (a : FnOk P w K mg base CX k f fd ps (spE K R)) (b : FnOk P w K mg base CX k f fd ps (spE K R')) : FnOk P w K mg base CX k f fd ps (spE K fun M ss C => R M ss C ∨ R' M ss C) :=
  FnOk.imp (fnOk_or a b) fun _ _ _ _ h => spE_or h
end
section
variable {K : PySem.W.Frag} {F F' H H' H0 H1 : Hp} {L : List Addr} {σ σ' : L2.St} {ρ ρ' : List Sl} {M M' M0 M1 M2 M3 Mn A B : Ms}
variable {te ta tb tc ti td ty tx tv : TE} {tt : TT} {tr tr' : TA} {s s1 s2 : Sl} {ss : List Sl} {d d1 d2 d3 : PyData} {ds es ds1 ds2 : List PyData} {D : Ends} {tu tw tz : TS} {p q C C0 : Addr} {fs : List (Str × Sl)} {m : Str} {E E' E1 E2 : XK} {Q : VK}
/-- behind an except suite its name is gone -/
theorem Ok.unset (o : Ok K F L σ H ρ M) {i : Nat} : Ok K F L (σ.set i none) H (ρ.set i .un) M := { o with sl := paired_set (.inl rfl) i o.sl }
theorem q_appNew (ha : EvN K ta ρ M ds M) (h : Ev K te ρ M (.dat d) M) (hz : ds.length < 1000000) (k : ∀ σ H, Ok K F L σ H ρ M → tz D σ H) (o : Ok K F L σ H ρ M) : tSeq (tDrop (tBM K "list" rAppend ta (tCons te tNil))) tz D σ H := s_appNew (D := { D with nx := tz D }) ha h hz k o
theorem q_pop {j : Nat} (ha : Ev K ta ρ M (.loc (.ref p)) M) (hj : M[j]? = some (p, .lst (ds ++ [d]))) (k : ∀ σ H, Ok K F L σ H ρ (M.set j (p, .lst ds)) → tz D σ H) (o : Ok K F L σ H ρ M) : tSeq (tDrop (tBM0 K "list" rPop ta)) tz D σ H := s_pop (D := { D with nx := tz D }) ha hj k o
theorem q_par3 {i j l : Nat} {s3 : Sl} (h : EvA K tr ρ M [s1, s2, s3] M1) (k : ∀ σ H, Ok K F L σ H (((ρ.set i s1).set j s2).set l s3) M1 → tz D σ H) (o : Ok K F L σ H ρ M) : tSeq (tPar3 i j l tr) tz D σ H := s_par3 (D := { D with nx := tz D }) h k o
/-- x, y, z = C(..), C(..), d -/
theorem q_par3M {i j l : Nat} {R1 R2 : List PyData → (Addr → List (Str × Sl)) → MO → Prop} {f1 f2 : Addr → List (Str × Sl)} {q1 q2 : MO} (ha1 : EvA K tr ρ M (ds1.map Sl.dat) M) (hR1 : R1 ds1 f1 q1) (ha2 : ∀ M, EvA K tr' ρ M (ds2.map Sl.dat) M) (hR2 : R2 ds2 f2 q2) (h3 : ∀ M, Ev K te ρ M (.dat d) M)
    (k : ∀ p q p' q' σ H, Ok K F L σ H (((ρ.set i (.loc (.ref p))).set j (.loc (.ref p'))).set l (.dat d)) (M ++ [(p, .ins C (f1 q)), (q, q1)] ++ [(p', .ins C0 (f2 q')), (q', q2)]) → tz D σ H) (o : Ok K F L σ H ρ M) :
    tSeq (tPar3 i j l (tCons (tMake C (spI K C R1) [] E1 tr) (tCons (tMake C0 (spI K C0 R2) [] E2 tr') (tCons te tNil)))) tz D σ H :=
by
  delta tSeq tPar3 tCons
  dsimp only
  refine make_ok ha1 hR1 o fun p q H1 _ _ o1 _ _ => ?_
  refine make_ok (ha2 _) hR2 o1 fun p' q' H2 _ _ o2 _ _ => ?_
  exact h3 _ F L σ H2 o2 _ fun v H3 o3 _ _ x3 => ⟨.ref p, .ref p', v, rfl, k p q p' q' _ _ (Ok.set (s := .dat d) (Ok.set (s := .loc (.ref p')) (Ok.set (s := .loc (.ref p)) o3 rfl) rfl) x3)⟩
/-- C(..) == C(..) -/
theorem ev_eqNew2 {R : Ms → List Sl → PyData → Ms → Prop} {b : Bool} {R1 R2 : List PyData → (Addr → List (Str × Sl)) → MO → Prop} {f1 f2 : Addr → List (Str × Sl)} {q1 q2 : MO} (hl : PySem.W.subIn K (.type "list") (.ref C) = some false) (ha1 : ∀ M, EvA K tr ρ M (ds1.map Sl.dat) M) (hR1 : R1 ds1 f1 q1) (ha2 : ∀ M, EvA K tr' ρ M (ds2.map Sl.dat) M) (hR2 : R2 ds2 f2 q2)
    (hR : ∀ p q p' q', R [(p, .ins C (f1 q)), (q, q1), (p', .ins C (f2 q')), (q', q2)] [.loc (.ref p), .loc (.ref p')] (.bool b) [(p, .ins C (f1 q)), (q, q1), (p', .ins C (f2 q')), (q', q2)]) :
    Ev K (tOp (rEqOwn K C (spMs K R) E) (tMake C (spI K C R1) [] E1 tr) (tMake C (spI K C R2) [] E2 tr')) ρ M (.dat (.bool b)) M := fun F L σ H o Q k =>
  make_ok (ha1 _) hR1 o fun p q H1 hFp hFq o1 _ a1 => make_ok (ha2 _) hR2 o1 fun p' q' H2 hFp' hFq' o2 _ a2 => by
    refine eq_run (M := M ++ [(p, .ins C (f1 q)), (q, q1)] ++ [(p', .ins C (f2 q')), (q', q2)]) hl o2 rfl (List.mem_append_left _ (List.mem_append_right _ List.mem_cons_self)) (s := .loc (.ref p')) rfl (.ins (List.mem_append_right _ List.mem_cons_self)) [(p, .ins C (f1 q)), (q, q1), (p', .ins C (f2 q')), (q', q2)] ?_ (hR p q p' q') fun H3 o3 a3 => ?_
    · rw [List.append_assoc]; exact List.sublist_append_right ..
    refine k _ H3 o3.forget.forget rfl (fun a y e => ?_) (.bl b)
    have e1 := a1 a y e
    obtain ⟨n, e0⟩ := hid_some e
    have n1 : a ∉ ad (M ++ [(p, .ins C (f1 q)), (q, q1)]) := fun z => by
      rw [show ad (M ++ [(p, .ins C (f1 q)), (q, q1)]) = ad M ++ [p, q] from List.map_append ..] at z
      rcases List.mem_append.mp z with z | z
      · exact n z
      · rcases List.mem_cons.mp z with z | z
        · rw [z, hFp] at e; cases e
        · rw [List.mem_singleton.mp z, hFq] at e; cases e
    have e1' := hid_of n1 e1
    have e2 := a2 a y e1'
    refine a3 a y (hid_of (fun z => ?_) e2)
    rw [show ad (M ++ [(p, .ins C (f1 q)), (q, q1)] ++ [(p', .ins C (f2 q')), (q', q2)]) = ad (M ++ [(p, .ins C (f1 q)), (q, q1)]) ++ [p', q'] from List.map_append ..] at z
    rcases List.mem_append.mp z with z | z
    · exact n1 z
    · rcases List.mem_cons.mp z with z | z
      · rw [z, hFp'] at e1'; cases e1'
      · rw [List.mem_singleton.mp z, hFq'] at e1'; cases e1'
/-- x not in [..], texts -/
theorem inV_strs (w : Str) : ∀ ws : List Str, inV (.str w) (ws.map V.str) = decide (w ∈ ws) := fun ws => by
  unfold inV
  induction ws with
  | nil => rfl
  | cons x ws ih =>
    simp only [List.map_cons, List.any_cons, List.mem_cons] at ih ⊢
    rw [ih, show eqV (.str x) (.str w) = decide (x = w) by simp [eqV, Bool.beq_eq_decide_eq]]
    by_cases e : w = x
    · subst e; simp
    · have e' : ¬ x = w := fun z => e z.symm
      simp [e, e']
theorem ev_notInS {w : Str} {ws : List Str} (ha : Ev K ta ρ M (.dat (.str w)) M1) (hb : Ev K tb ρ M1 (.dat (.list (ws.map PyData.str))) M2) : Ev K (tOp (rIn K true) ta tb) ρ M (.dat (.bool (!decide (w ∈ ws)))) M2 := ev_op ha hb fun F L σ H x y o hx hy Q q => by
  obtain ⟨a, ys, rfl, h1, h2⟩ := list_of hy
  have e := dp_strs h2
  subst e
  have ex := str_of hx
  subst ex
  refine ⟨a, _, rfl, .inl (SqL.vis h1), rfl, by simp [List.all_map, flatV], q _ H (Same.refl H) ?_⟩
  rw [inV_strs]
  exact .bl _
/-! ### isinstance(x, C), x an instance or a list -/
theorem ev_isiC {D : Addr} (I : IsC K C) (ha : Ev K ta ρ M (.loc (.ref p)) M1) (hp : (p, MO.ins C fs) ∈ M1) {b : Bool} (hk : PySem.W.kitOne K (.ref C) (.ref D) = some b) : Ev K (tCB (rIsi K) (tCons ta (tCons (tC (.ref D)) tNil))) ρ M (.dat (.bool b)) M1 := by
  refine ev_cb (ss := [.loc (.ref p), .loc (.ref D)]) (EvA.cons ha (EvA.cons (ev_c fun _ => rfl) EvA.nil)) fun F L σ H xs o hx Q q => ?_
  obtain ⟨x, c, rfl, h1, h2⟩ := two_of hx
  have ec : c = .ref D := h2
  have ex : x = .ref p := h1
  subst ec ex
  obtain ⟨dx, gs, h3, _⟩ := o.ob _ hp
  exact ⟨.ref p, .ref D, .ref C, .ref D, b, rfl, .own D, .base (.ins h3 I.cl I.ha I.hn I.ht I.hm), hk, q _ H (Same.refl H) (.bl _)⟩
theorem ev_isiLC {D : Addr} (ha : Ev K ta ρ M (.dat (.list ds)) M1) {b : Bool} (hk : PySem.W.kitOne K (.type "list") (.ref D) = some b) : Ev K (tCB (rIsi K) (tCons ta (tCons (tC (.ref D)) tNil))) ρ M (.dat (.bool b)) M1 := by
  refine ev_cb (ss := [.dat (.list ds), .loc (.ref D)]) (EvA.cons ha (EvA.cons (ev_c fun _ => rfl) EvA.nil)) fun F L σ H xs o hx Q q => ?_
  obtain ⟨x, c, rfl, h1, h2⟩ := two_of hx
  have ec : c = .ref D := h2
  subst ec
  have hd : Dp K H x (.list ds) := Dp.mono (hid_le _ _) h1
  exact ⟨x, .ref D, .type "list", .ref D, b, rfl, .own D, ty_of hd, hk, q _ H (Same.refl H) (.bl _)⟩
end
end Wm

/-! an error with a field: made, raised, read where it is handled. -/
namespace L2N
open PySem PySem.Spec PyProof.Rows L2
section
variable {X : Cx} {CX : CXT} {x : Str} {C fI S : Addr} {k : Nat} {fd : FuncData} {ps : List Str} {sp : Sp} {ds : List Value} {dvs : List V} {e : Expr} {es : List Expr} {ta : TA} {p p1 p2 pos : Pos}
/-- C(e, ..), its own __init__ keeps sp -/
theorem pmk_oexN (T : OexC X.K C) (iC : PySem.W.findIn X.K (.ref C) "__init__" = some (some (.ref fI))) (tI : PySem.W.typeIn X.K (.ref fI) = some (.type "function"))
    (F1 : FnOk X.prog X.w X.K X.mg X.base CX k fI fd ps sp) (hr : Room (k + 1) X.A) (hb : Binds X.K fd ps ds) (hd : Vals dvs ds) (hx : Passes CX X (fun _ _ _ => False))
    (hg : Gl X x) (hm : X.mg x = some (.ref C)) (ha : PA X (e :: es) ta) (hdb : (x == ("__debug__" : Str)) = false := by decide)
    (he : starEach (e :: es) X.env = (false, eval e X.env) :: starEach es X.env := by rfl) (hpl : (backTo pos (starEach es X.env)).any (·.1) = false := by rfl) : PMk X (.Call (.Name x p) (e :: es) [] pos) (tMkO C sp dvs ta) := by
  intro pins s σ H Q I h
  obtain ⟨nm, q, N, bs, bm, sn, sub, ab, col, dd, k0, k1, k2, k3, k5, hC, hbm⟩ := T.cls
  refine wpAny_Call_Name_kw (ld_glob I hg hm ?_ hdb)
  refine PySem.W.callWith_K (h₀ := X.base) I.ok.mod.kin T.kC (thn (ha.run pos pins s σ H _ I h) fun us s1 hh => ?_) he hpl
  obtain ⟨vs, H1, I1, r1, hz, q1⟩ := hh
  refine ⟨I1.kIn, ?_⟩
  show wpAny _ _ (call (.ref C) us) _ _ _
  obtain ⟨hp, g, dr, tk, os⟩ := s1
  have up : hp.objs.size ≤ hp.objs.size + 1 := Nat.le_succ _
  have fresh : H1 (hp.objs.size + 1) = none := I1.hok.fresh up
  have qa := q1 (hp.objs.size + 1) fresh
  have kk : ∀ b o, hp.get? b = some o → ((hp.push (PySem.W.kdv_tup us)).push (PySem.HandSPX.excO C hp.objs.size)).get? b = some o := fun b o z => Heap.get?_push_of_some _ (Heap.get?_push_of_some _ z)
  have at1 : ((hp.push (PySem.W.kdv_tup us)).push (PySem.HandSPX.excO C hp.objs.size)).get? (hp.objs.size + 1) = some (PySem.HandSPX.excO C hp.objs.size) := by heap_get
  have I2 : Inv X pins σ (upd H1 (hp.objs.size + 1) (exo (hp.objs.size + 1) C none)) ⟨(hp.push (PySem.W.kdv_tup us)).push (PySem.HandSPX.excO C hp.objs.size), g, dr, tk, os⟩ :=
    I1.laid (t' := tk) (o := exo (hp.objs.size + 1) C none) (a := hp.objs.size + 1) kk up (exo_ok at1)
  have r2 : Vals (V.ref (hp.objs.size + 1) :: (vs ++ dvs)) (Value.ref (hp.objs.size + 1) :: (us ++ ds)) := .cons rfl (r1.append hd)
  have hl : (Value.ref (hp.objs.size + 1) :: us ++ ds).length = ps.length := (r2.length.symm.trans (F1.len _ _ _ _ qa))
  have hus : us.length ≤ sizeLine := by
    have := Paired.length r1
    rw [sizeLine_eq]; omega
  refine wpAny_call (PySem.HandSPX.call_own F.excBase_ValueError (fun Y => PySem.HandSPX.refsVE_contains Y bm hbm) (I1.kIn _ _ hC) (PySem.W.looks_findIn I1.kIn iC) (fun self => PySem.W.bind_fn I1.kIn self tI) hus 
    (codeAny_mono (F1.run _ X.stack _ _ ⟨Value.ref (hp.objs.size + 1) :: us, []⟩ (Value.ref (hp.objs.size + 1) :: (us ++ ds)) _ _ (fun _ _ _ => False) (hr.make C us []) (I2.env0.make C us [])
      (hb _ (Value.ref (hp.objs.size + 1) :: us) I2.kIn hl) r2 qa) fun r s' hq' => ?_))
  cases r with
  | error er => exact hx pins σ _ _ er s' I2 hq'
  | ok fl =>
    cases fl with
    | next => exact False.elim hq'
    | brk => exact False.elim hq'
    | cont => exact False.elim hq'
    | ret u =>
      obtain ⟨v, H2, os2, bare2, un2, hok2, rv, ev, d, fs, ea, ed, hd1, q2⟩ := hq'
      subst ev
      obtain ⟨h2, g2, d2, t2, os'⟩ := s'
      obtain ⟨t0, G, J, kG, ge, hoe, na⟩ := mk_end0 (d2 := d2) (t2 := t2) I1 up kk un2 hok2 os2 bare2 ea ed hd1
      exact ⟨rv, _, _, _, ⟨G, g2, d2, t2, os'⟩, _, .ref C, some d, rfl, J, kG, ge, hoe, ⟨rfl, rfl, fun vs z => by cases z; rfl⟩, rfl, rfl, na, rfl, bare2, raises_own T.exC T.tyC, q2⟩
end
end L2N
namespace Wm
open PySem PySem.Spec PyProof.Rows L2
section
variable {X : Cx} {x : Str} {S : Addr} {e : Expr} {es : List Expr} {ta : TA} {p1 p2 pos : Pos}
/-- S.__init__(self, ..), S an own class over ValueError that has none -/
theorem pe_ceinit {pl : Sem Bool} (hg : Gl X x) (hm : X.mg x = some (.ref S)) (h1 : PySem.W.specialIn X.K (.ref S) "__getattribute__" = some (some (.builtin "type.__getattribute__"))) (h2 : PySem.W.typeIn X.K (.ref S) = some (.type "type")) (h3 : PySem.W.readsIn X.K S (.type "type") = true)
    (h4 : PySem.W.findCls X.K (.ref S) (.type "type") "__init__" = some (.val (.builtin "ValueError.__init__"))) (ha : PA X (e :: es) ta) (hd : (x == ("__debug__" : Str)) = false := by decide)
    (hc : eval (.Call (.Attribute (.Name x p1) "__init__" p2) (e :: es) [] pos) X.env = (do
      let ov ← eval (.Name x p1) X.env
      standAt p2.atName
      let (f, first) ← holding [ov] (getMethod ov "__init__" pl)
      callWith pos f first (backTo pos (starEach (e :: es) X.env)) (backToKw pos (keywordEach [] X.env))) := by rfl)
    (he : starEach (e :: es) X.env = (false, eval e X.env) :: starEach es X.env := by rfl) (hpl : (backTo pos (starEach es X.env)).any (·.1) = false := by rfl) :
    PE X (.Call (.Attribute (.Name x p1) "__init__" p2) (e :: es) [] pos) (tVeI X.K ta) := by
  refine ⟨fun pins s σ H Q I h => ?_⟩
  refine PySem.W.methodCall_KW (ld_glob I hg hm ?_ hd) hc
  obtain ⟨m, fr⟩ := I.fr
  refine PySem.W.method_of_cls fr I.ok.mod.kin h1 (PySem.W.cls_val fr I.ok.mod.kin h2 h3 h4 (by decide +kernel) ?_)
  show wpAny _ _ (callWith pos (Value.builtin "ValueError.__init__") [] (backTo pos (starEach (e :: es) X.env)) []) _ _ _
  refine PyProof.Rows.callWith_method1 (thn (ha.run pos pins _ σ H _ (I.tok _) h) fun us s1 hh => ?_) he hpl
  obtain ⟨vs, H1, I1, r1, a, C, ws, ev, hl, T, ea, q⟩ := hh
  subst ev
  cases r1 with
  | @cons _ u0 _ ur ra rr =>
    have eu : u0 = Value.ref a := ra
    subst eu
    have hlen : ur.length ≤ sizeLine := by
      have := Paired.length rr
      rw [sizeLine_eq]; omega
    exact oinit_ok T I1 ea hlen fun s' J => ⟨.non, H1, J, rfl, q⟩
end
/-- what __init__(self, most) of such a class does -/
def spXI (C : Addr) (f : Str) : Sp := fun vs H Q _ => ∃ (a : Addr) (m : Int), vs = [.ref a, .int m] ∧ H a = some (exo a C none) ∧ ∀ d, H d = none → d ≠ a → Q .non (upd (upd H d (exd d [(f, .int m)])) a (exo a C (some d)))
/-- an own class of error with one field, its __init__ at fI -/
structure XfE (K : PySem.W.Frag) (mg : Str → Option Value) (x : Str) (C : Addr) (f : Str) : Prop where
  g : mg x = some (.ref C)
  T : OexC K C
  no : PySem.W.findIn K (.ref C) f = some none
  xf : XfC K C
structure XfI (P : Program) (w : World) (K : PySem.W.Frag) (mg : Str → Option Value) (base : Heap) (C : Addr) (f : Str) (k : Nat) : Prop where
  ex : ∃ (fI : Addr) (fd : FuncData) (ps : List Str), FnOk P w K mg base CX0 k fI fd ps (spXI C f) ∧ PySem.W.findIn K (.ref C) "__init__" = some (some (.ref fI)) ∧ PySem.W.typeIn K (.ref fI) = some (.type "function") ∧ Binds K fd ps []
/-- R: the objects, the arguments, the field; the objects stay -/
def spX (K : PySem.W.Frag) (C : Addr) (f : Str) (R : Ms → List Sl → Int → Prop) : Sp := fun vs H _ E => ∃ L M ss m, (∀ a ∈ L, H a ≠ none) ∧ (∀ a ∈ ad M, a ∈ L) ∧ (ad M).Nodup ∧ Paired (SlOk K (hid L H)) vs ss ∧ (∀ x ∈ M, MOk K (hid L H) H x.1 x.2) ∧ R M ss m ∧
  ∀ d H1, H d = none → H1 d = some (.xd [(f, .int m)]) → Same (hid (ad M) H) H1 → (∀ x ∈ M, MOk K (hid L H1) H1 x.1 x.2) → E (.ref C) (some d) H1
section
variable {P : Program} {w : World} {K : PySem.W.Frag} {mg : Str → Option Value} {base : Heap} {x qual : Str} {st : Stmt} {f C : Addr} {fd : FuncData} {N ps : List Str} {j k : Nat} {sp sp' : Sp} {fl : Str}
theorem okX {R : Ms → List Sl → Int → Prop} (Fn : Fun K x qual st f fd) (S : FnScope N ps (defScope st)) (hl : ∀ M ss m, R M ss m → ss.length = ps.length)
    (hb : ∀ cdv A outer s H E, Room k (A.deeper (envOfC qual (defScope st) s.heap.objs.size f cdv)) → ∃ t, PSs (cxOf (L2N.CX P w) P w K mg base N qual (defScope st) f cdv A outer s H E) (defBody st) t ∧
      ∀ M ss m, R M ss m → ∀ (F : Hp) L σ H (D : Ends), (∀ d H', d ∉ ad M → F d = none → H' d = some (.xd [(fl, .int m)]) → Same F H' → (∀ x ∈ M, MOk K (hid L H') H' x.1 x.2) → E (.ref C) (some d) H') → (∀ a ∈ ad M, a ∈ L) → Ok K F L σ H (st0 N ss) M → t D σ H) :
    FnOk P w K mg base (L2N.CX P w) (k + 1) f fd ps (spX K C fl R) := by
  obtain ⟨oc, od, kV, doc, pm, an, cdv, ct, osl, rfl, lk, hcd⟩ := Fn.ex
  refine fn_of lk hcd S (fun vs H Q E h => ?_) fun A outer s H vs Q E hr h => ?_
  · obtain ⟨L, M, ss, m, lv, hL, nd, hp, hm, hR, _⟩ := h
    rw [paired_len hp]; exact hl _ _ _ hR
  · obtain ⟨L, M, ss, m, lv, hL, nd, hp, hm, hR, q⟩ := h
    obtain ⟨t, h1, h2⟩ := hb cdv A outer s H E hr
    have sub : ∀ G : Hp, Same (hid L G) (hid (L ++ ad M) G) := fun G => hid_sub fun a ha => by
      rcases List.mem_append.mp ha with z | z
      · exact z
      · exact hL a z
    exact ⟨t, h1, h2 M ss m hR (hid (ad M) H) L _ H _ (fun d H' nd hd hx s2 g1 => q d H' (by rw [← hd, hid_out nd]) hx s2 g1) hL (ok_start (Paired.mapP hp fun _ _ z => z.mono (sub H)) lv (fun y hy => (hm y hy).mono (sub H) rfl) nd (hid_le _ _) fun a ha => hid_in ha)⟩
theorem FnOk.up {f : Addr} {fd : FuncData} (a : FnOk P w K mg base CX0 k f fd ps sp) {CX : CXT} : FnOk P w K mg base CX k f fd ps sp :=
  ⟨a.len, fun A outer s H args us vs Q E hr e0 hb r h => codeAny_mono (a.run A outer s H args us vs Q E hr e0 hb r h) fun r s' z => by
    cases r with
    | error e => exact False.elim z
    | ok fl => cases fl <;> exact z⟩
section
variable {scope : Scope} {cd : Value} {A : Around} {outer : List Env} {s : Shared} {H : Hp} {E : XK} {p pos pos' : Pos} {e : Expr} {te : TE}
/-- raise C(e), C with a field -/
theorem ps_raiseXf (T : XfE K mg x C fl) (I : XfI P w K mg base C fl k) (hr : Room (k + 1) (cxOf (L2N.CX P w) P w K mg base N qual scope f cd A outer s H E).A) (hg : Gl (cxOf (L2N.CX P w) P w K mg base N qual scope f cd A outer s H E) x) (he : PE (cxOf (L2N.CX P w) P w K mg base N qual scope f cd A outer s H E) e te) (hd : (x == ("__debug__" : Str)) = false := by decide)
    (hs : starEach [e] (cxOf (L2N.CX P w) P w K mg base N qual scope f cd A outer s H E).env = (false, eval e (cxOf (L2N.CX P w) P w K mg base N qual scope f cd A outer s H E).env) :: starEach [] (cxOf (L2N.CX P w) P w K mg base N qual scope f cd A outer s H E).env := by rfl) :
    PS (cxOf (L2N.CX P w) P w K mg base N qual scope f cd A outer s H E) (.Raise (some (.Call (.Name x p) [e] [] pos)) none pos') (fun _ σ H' => tMkO C (spXI C fl) [] (tCons te tNil) σ H' E) := by
  obtain ⟨fI, fd, ps, F, h1, h2, h3⟩ := I.ex
  exact L2N.ps_raise (t := tMkO C (spXI C fl) [] (tCons te tNil)) rfl (L2N.takes_of rfl rfl rfl rfl) (L2N.pmk_oexN T.T h1 h2 F hr h3 .nil pass0 hg T.g (pa_cons he pa_nil hs) hd hs rfl)
end
end
/-- the lambda F at f -/
def LamAt (f : Addr) (F : NdefX.NF) (e : Expr) (H : Hp) : Prop := H f = some (LamO f F e) ∧ H F.c = some (LamX.CodeO F.c F.qual)
/-- a call of what slot i holds: a lambda, or a def of the module -/
def tCallV (P : Program) (w : World) (K : PySem.W.Frag) (mg : Str → Option Value) (base : Heap) (k : Nat) (i : Nat) (E : L2.St → XK) (t : TA) : TE := fun σ H Q => ∃ f sp, σ[i]? = some (some (.ref f)) ∧
  ((∃ (mk : Addr → NdefX.NF) (e : Expr) (ps : List Str) (c' : Addr), LOk P w K mg base (L2N.CX P w) k f (mk c') e ps sp ∧ LamAt f (mk c') e H ∧ t σ H fun vs H1 => LamAt f (mk c') e H1 ∧ sp vs H1 Q (E σ)) ∨
   ∃ (fd : FuncData) (ps : List Str), FnOk P w K mg base (L2N.CX P w) k f fd ps sp ∧ PySem.W.keepIn K (.ref f) = true ∧ Binds K fd ps [] ∧ t σ H fun vs H1 => sp vs H1 Q (E σ))
section
variable {X : Cx} {i j k : Nat} {x : Str} {E : L2.St → XK} {t : TA} {e : Expr} {es : List Expr} {p pos : Pos}
theorem pe_callv (hr : Room j X.A) (hk : k ≤ j) (hx : ∀ σ, PassesAt (L2N.CX X.prog X.w) X σ (E σ)) (hN : X.N[i]? = some x) (hv : Vis X.env.scope x) (ha : PA X (e :: es) t)
    (hd : (x == ("__debug__" : Str)) = false := by decide) (hcd : (x == ("__classdict__" : Str)) = false := by decide)
    (he : starEach (e :: es) X.env = (false, eval e X.env) :: starEach es X.env := by rfl) (hpl : (backTo pos (starEach es X.env)).any (·.1) = false := by rfl) :
    PE X (.Call (.Name x p) (e :: es) [] pos) (tCallV X.prog X.w X.K X.mg X.base k i E t) := by
  refine ⟨fun pins s σ H Q I h => ?_⟩
  obtain ⟨f, sp, hs, hc⟩ := h
  refine wpAny_Call_Name_kw (thn ((pe_var (pos := p) hN hv hd hcd).run pins s σ H (fun v H1 => v = .ref f ∧ H1 = H) I ⟨.ref f, hs, rfl, rfl⟩) fun u s1 hh => ?_)
  obtain ⟨v, H1, I1, r1, ev, eH⟩ := hh
  subst ev
  rw [eH] at I1
  obtain rfl : u = Value.ref f := r1
  have back : ∀ {H2 : Hp} {s2 : Shared} {r : Result} {s' : Shared}, Inv X pins σ H2 s2 → CR (L2N.CX X.prog X.w) X.stack X.prog X.w H2 s2 Q (E σ) r s' → (match r with | .ok (.ret u) => EP X pins σ Q u s' | .ok _ => False | .error e => X.xe e s') := fun {H2 s2 r s'} I2 hq => by
    cases r with
    | error e => exact hx σ pins H2 s2 e s' I2 hq
    | ok fl =>
      cases fl with
      | ret u => exact I2.after hq
      | next => exact False.elim hq
      | brk => exact False.elim hq
      | cont => exact False.elim hq
  rcases hc with ⟨mk, e', ps, c', lo, hl, ht⟩ | ⟨fd, ps, F, hkp, hb, ht⟩
  · refine PySem.W.callWith_F (first := []) (lamAt I1 hl.1) (thn (ha.run pos pins s1 σ H _ I1 ht) fun us s2 hh => ?_) he hpl
    obtain ⟨vs, H2, I2, r, hl2, q⟩ := hh
    refine ⟨lamAt I2 hl2.1, ?_⟩
    show wpAny _ _ (call (.ref f) us) _ _ _
    refine wpAny_call (codeAny_mono (lo.run X.A X.stack s2 H2 us vs _ (E σ) (hr.mono hk) I2.env0 hl2.1 hl2.2 r q) fun r s' hq => ?_)
    have z := back I2 hq
    cases r with
    | error e => exact z
    | ok fl => cases fl <;> exact z
  · refine PySem.W.callWith_K (h₀ := X.base) I1.ok.mod.kin hkp (thn (ha.run pos pins s1 σ H _ I1 ht) fun us s2 hh => ?_) he hpl
    obtain ⟨vs, H2, I2, r, q⟩ := hh
    refine ⟨I2.kIn, ?_⟩
    show wpAny _ _ (call (.ref f) us) _ _ _
    have hl : (us ++ []).length = ps.length := by rw [List.append_nil]; exact r.length.symm.trans (F.len _ _ _ _ q)
    have hbt := hb s2 us I2.kIn hl
    rw [List.append_nil] at hbt
    refine wpAny_call (codeAny_mono (F.run X.A X.stack s2 H2 ⟨us, []⟩ us vs _ (E σ) (hr.mono hk) I2.env0 hbt r q) fun r s' hq => ?_)
    have z := back I2 hq
    cases r with
    | error e => exact z
    | ok fl => cases fl <;> exact z
end
end Wm

/-! doors and refusals, told over data. -/
namespace Wm
open PySem PySem.Spec PyProof.Rows L2
/-! ### the suite of an error with a field -/
theorem suite_exD {X : Cx} {K : PySem.W.Frag} {oe : Obj} {cls : Value} {d : Option Addr} {ss : List Stmt} {f : Str} {t : Addr → Addr → TS} (hz : L2N.Zn cls d oe) (h : ∀ C dd, ExcC K C → XfC K C → PySem.W.findIn K (.ref C) f = some none → L2N.Zn (.ref C) (some dd) oe → PSs X ss (t C dd)) :
    PSs X ss (fun D σ H => ∃ C dd, cls = .ref C ∧ d = some dd ∧ ExcC K C ∧ XfC K C ∧ PySem.W.findIn K (.ref C) f = some none ∧ t C dd D σ H) :=
  ⟨fun pins s σ H D I ⟨C, dd, e1, e2, xc, xf, no, ht⟩ => by subst e1 e2; exact (h C dd xc xf no hz).run pins s σ H D I ht⟩
/-- isinstance(e, c), e with a dict -/
def rIsED (K : PySem.W.Frag) (D a dd : Addr) : List V → Hp → VK → Prop := fun xs H Q => ∃ (c : V) (cv : Value) (b : Bool) (fs : List (Str × V)), xs = [.ref a, c] ∧ (∀ u, RelV c u → u = cv) ∧ H dd = some (.xd fs) ∧ PySem.W.kitOne K (.ref D) cv = some b ∧ Q (.bl b) H
theorem w_isED {X : Cx} {K' : PySem.W.Frag} (hK : X.K = K') {a D dd : Addr} {oe : Obj} {pn : List (Addr × Obj)} (C : ExcC K' D) (hz : L2N.Zn (.ref D) (some dd) oe) (hf : ∃ vs, oe.data = .fields vs) : CallR (X.suite a ((a, oe) :: pn)) (.builtin "isinstance") (rIsED K' D a dd) := by
  subst hK
  intro pins s σ H xs us Q I r h
  obtain ⟨c, cv, b, fs, rfl, hcv, hd, e, q⟩ := h
  cases r with
  | cons rx rr =>
    cases rr with
    | cons rt rr =>
      cases rr
      cases rx
      have ec := hcv _ rt
      subst ec
      obtain ⟨hget, _⟩ := I.pin (a, oe) (List.mem_append.mpr (.inl List.mem_cons_self))
      obtain ⟨vs, hv⟩ := hf
      have hx : ObjOk X.prog X.w H s.heap dd (.xd fs) := I.hok dd _ hd
      obtain ⟨mA, hns, _⟩ := hx
      obtain ⟨od, ho, _⟩ := lookIn_ns hns
      have J : PySem.W.InstAt s.heap a oe D (some od) := ⟨hget, hz.1, by unfold PySem.W.notCls; rw [hv] <;> rfl, by rw [hz.2.1]; exact ho⟩
      obtain ⟨cdD, hcD, _⟩ := PySem.W.any_some C.hd
      exact PySem.W.kia_one (PySem.W.kitx_exc (by rw [hcD]; rfl) C.hg C.hk C.hs C.ha C.hn C.ht C.hm) I.kIn J e (fun z => nomatch z) fun tk => ⟨.bl b, H, I.kept (t' := tk) fun _ _ z => z, rfl, q⟩
theorem w_xf {X : Cx} {K' : PySem.W.Frag} (hK : X.K = K') {a C dd : Addr} {oe : Obj} {pn : List (Addr × Obj)} {e : Expr} {te : TE} {pos : Pos} {n : Str} (T : XfC K' C) (hno : PySem.W.findIn K' (.ref C) n = some none) (hz : L2N.Zn (.ref C) (some dd) oe) (hf : ∃ vs, oe.data = .fields vs) (he : PE (X.suite a ((a, oe) :: pn)) e te) (hb : attributeBase e n X.env (eval e X.env) = eval e X.env := by rfl) :
    PE (X.suite a ((a, oe) :: pn)) (.Attribute e n pos) (tXf a (.ref C) (some dd) C n te) := by
  subst hK; exact pe_xf T hno hz.zc hf he hb
section
variable {P : Program} {w : World} {mg : Str → Option Value} {base : Heap} {k : Nat}
variable {K : PySem.W.Frag} {F F' H H' H0 H1 : Hp} {L : List Addr} {σ σ' : L2.St} {ρ ρ' : List Sl} {M M' M0 M1 M2 M3 Mn A B : Ms}
variable {te ta tb tc ti td ty tx tv : TE} {tt : TT} {tr tr' : TA} {s s1 s2 : Sl} {ss : List Sl} {d d1 d2 d3 : PyData} {ds es ds1 ds2 : List PyData} {D : Ends} {tu tw tz : TS} {p q C C0 : Addr} {fs : List (Str × Sl)} {m : Str} {E E' E1 E2 : XK} {Q : VK} {fl : Str} {i : Nat}
theorem ev_isED {a dd D : Addr} {n : String} {b : Bool} {fs : List (Str × V)} (he : ρ[i]? = some (.loc (.ref a))) (hd : F dd = some (.xd fs)) (hk : PySem.W.kitOne K (.ref D) (.type n) = some b) (o : Ok K F L σ H ρ M) (q : Q (.bl b) H) : tCB (rIsED K D a dd) (tCons (tVar i) (tCons (tC (.ty n)) tNil)) σ H Q := by
  obtain ⟨v, h1, h2⟩ := o.get he (fun z => nomatch z)
  have e : v = .ref a := h2
  subst e
  exact ⟨_, h1, .ty n, .type n, b, fs, rfl, fun u r => r, o.fr _ _ hd, hk, q⟩
/-! ### raised, let through -/
theorem x_raiseXf {m : Int} (h : Ev K te ρ M (.dat (.int m)) M) (hE : ∀ d H', d ∉ ad M → F d = none → H' d = some (.xd [(fl, .int m)]) → Same F H' → (∀ x ∈ M, MOk K (hid L H') H' x.1 x.2) → E (.ref C) (some d) H') (o : Ok K F L σ H ρ M) (hM : ∀ a ∈ ad M, a ∈ L) : tMkO C (spXI C fl) [] (tCons te tNil) σ H E := h F L σ H o _ fun v H1 o1 e1 a1 x1 => by
  have ev := int_of x1
  subst ev
  refine ⟨by simp, fun a ha => ⟨a, m, rfl, upd_same, fun d hd ne => ?_⟩⟩
  have hd1 : H1 d = none := by rw [upd_ne ne] at hd; exact hd
  refine ⟨rfl, d, [(fl, .int m)], upd_same, (upd_ne ne).trans upd_same, hd1, ?_⟩
  have nd : d ∉ L ++ ad M := o1.fresh hd1
  have na : a ∉ L ++ ad M := o1.fresh ha
  have keep : ∀ b x, H1 b = some x → upd (del (upd (upd (upd H1 a (exo a C none)) d (exd d [(fl, .int m)])) a (exo a C (some d))) a) d (.xd [(fl, .int m)]) b = some x := fun b x z => by
    have nb : b ≠ a := ne_of_none z ha
    have nb2 : b ≠ d := ne_of_none z hd1
    rw [upd_ne nb2, del_ne nb, upd_ne nb, upd_ne nb2, upd_ne nb]; exact z
  refine hE d _ (fun z => nd (List.mem_append_right _ z)) (o1.fr.free hd1) upd_same (fun b x z => keep b x (o1.fr b x z)) fun x hx => ?_
  obtain ⟨y, ey⟩ := (o1.ob x hx).there
  refine (o1.ob x hx).mono (fun b z e => ?_) ((keep _ _ ey).trans ey.symm)
  obtain ⟨n, e2⟩ := hid_some e
  exact hid_of (fun z2 => n (List.mem_append_left _ z2)) (keep _ _ e2)
theorem x_spX {R : Ms → List Sl → Int → Prop} {m : Int} {vs : List V} (o : Ok K F L σ H ρ M) (M0 : Ms) (w : M0.Sublist M) (hv : Paired (SlOk K (hid (L ++ ad M) H)) vs ss) (hR : R M0 ss m) (hE : ∀ d H1, d ∉ L → d ∉ ad M → F d = none → H1 d = some (.xd [(fl, .int m)]) → Ok K F L σ H1 ρ M → E (.ref C) (some d) H1) : spX K C fl R vs H Q E :=
  ⟨L ++ ad M, M0, ss, m, fun a ha => o.there ha, fun a ha => List.mem_append_right _ ((w.map Prod.fst).subset ha), List.Nodup.sublist (w.map _) o.nd, hv, fun x hx => o.ob x (w.subset hx), hR, fun d H2 hd hx s2 hm => hE d H2 (fun z => o.fresh hd (List.mem_append_left _ z)) (fun z => o.fresh hd (List.mem_append_right _ z)) (o.fr.free hd) hx (swap_ok o (fun nd => Sw.same w nd) s2 hm rfl).1⟩
theorem x_callX {R : Ms → List Sl → Int → Prop} {m : Int} (ha : EvA K tr ρ M ss M) (M0 : Ms) (w : M0.Sublist M) (hR : R M0 ss m) (hE : ∀ d H1, d ∉ L → d ∉ ad M → F d = none → H1 d = some (.xd [(fl, .int m)]) → Ok K F L σ H1 ρ M → E (.ref C) (some d) H1) (o : Ok K F L σ H ρ M) : tCall (spX K C fl R) [] E tr σ H Q := ha F L σ H o _ fun vs H1 o1 e1 a1 x1 => by
  rw [List.append_nil]
  exact x_spX o1 M0 w x1 hR hE
/-! ### called by a slot -/
/-- the slot s0 holds what keeps sp -/
def CanL (P : Program) (w : World) (K : PySem.W.Frag) (mg : Str → Option Value) (base : Heap) (k : Nat) (s0 : Sl) (sp : Sp) : Prop :=
  (∃ (mk : Addr → NdefX.NF) (e : Expr) (ps : List Str), s0 = .pr (φL mk e) ∧ ∀ f c', LOk P w K mg base (L2N.CX P w) k f (mk c') e ps sp) ∨ ∃ (f : Addr) (fd : FuncData) (ps : List Str), s0 = .loc (.ref f) ∧ FnOk P w K mg base (L2N.CX P w) k f fd ps sp ∧ PySem.W.keepIn K (.ref f) = true ∧ Binds K fd ps []
theorem callV {E : L2.St → XK} {s0 : Sl} {sp : Sp} (hc : CanL P w K mg base k s0 sp) (h : ρ[i]? = some s0) (ha : EvA K tr ρ M ss M1) (o : Ok K F L σ H ρ M) (g : ∀ vs H1, Ok K F L σ H1 ρ M1 → ad M1 = ad M → Same (hid (ad M) H) H1 → Paired (SlOk K (hid (L ++ ad M) H1)) vs ss → sp vs H1 Q (E σ)) : tCallV P w K mg base k i E tr σ H Q := by
  rcases hc with ⟨mk, e, ps, rfl, lo⟩ | ⟨f, fd, ps, rfl, F1, hk, hb⟩
  · obtain ⟨v, h1, f, c', ev, h2, h3⟩ := pr_get o h
    subst ev
    refine ⟨f, sp, h1, .inl ⟨mk, e, ps, c', lo f c', ⟨(hid_some h2).2, (hid_some h3).2⟩, ha F L σ H o _ fun vs H1 o1 e1 a1 x1 => ?_⟩⟩
    have vis : Same (hid (L ++ ad M) H) H1 := fun a x z => a1 a x (hid_sub (fun b hb => List.mem_append_right _ hb) _ _ z)
    exact ⟨⟨vis _ _ h2, vis _ _ h3⟩, g vs H1 o1 e1 a1 x1⟩
  · obtain ⟨v, h1, h2⟩ := o.get h (fun z => nomatch z)
    have ev : v = .ref f := h2
    subst ev
    exact ⟨f, sp, h1, .inr ⟨fd, ps, F1, hk, hb, ha F L σ H o _ fun vs H1 o1 e1 a1 x1 => g vs H1 o1 e1 a1 x1⟩⟩
theorem ev_callV {E : L2.St → XK} {s0 : Sl} {sp : Sp} {R : Ms → List Sl → PyData → Ms → Prop} {r : PyData} (hs : ∀ vs H Q E, spMs K R vs H Q E → sp vs H Q E) (hc : CanL P w K mg base k s0 sp) (h : ρ[i]? = some s0) (ha : EvA K tr ρ M ss M) (hn : ad Mn = ad M) (hR : R M ss r Mn) : Ev K (tCallV P w K mg base k i E tr) ρ M (.dat r) Mn := fun F L σ H o Q q => callV hc h ha o fun vs H1 o1 e1 a1 x1 => by
  have w : (ad M).Nodup → Sw M Mn M Mn := fun _ => ⟨List.Sublist.refl _, hn, fun x hx => .inl hx⟩
  refine hs _ _ _ _ ⟨L ++ ad M, M, ss, r, Mn, fun a ha => o1.there ha, fun a ha => List.mem_append_right _ ha, o1.nd, x1, fun x hx => o1.ob x hx, hR, hn, fun v H2 s2 hm hv => ?_⟩
  obtain ⟨o2, s3⟩ := swap_ok o1 w s2 hm hn
  exact q v H2 o2 hn (chain2 e1 a1 s3) hv
theorem x_callV {E : L2.St → XK} {s0 : Sl} {sp : Sp} {R : Ms → List Sl → Addr → Prop} (hs : ∀ vs H Q E, spE K R vs H Q E → sp vs H Q E) (hc : CanL P w K mg base k s0 sp) (h : ρ[i]? = some s0) (ha : EvA K tr ρ M ss M) (M0 : Ms) (hM : M0.Sublist M) (hR : R M0 ss C) (hE : ∀ H1, Ok K F L σ H1 ρ M → E σ (.ref C) none H1) (o : Ok K F L σ H ρ M) : tCallV P w K mg base k i E tr σ H Q :=
  callV hc h ha o fun vs H1 o1 e1 a1 x1 => hs _ _ _ _ (x_sp o1 M0 hM x1 hR hE)
theorem xx_callV {E : L2.St → XK} {s0 : Sl} {sp : Sp} {R : Ms → List Sl → Int → Prop} {m : Int} (hs : ∀ vs H Q E, spX K C fl R vs H Q E → sp vs H Q E) (hc : CanL P w K mg base k s0 sp) (h : ρ[i]? = some s0) (ha : EvA K tr ρ M ss M) (M0 : Ms) (hM : M0.Sublist M) (hR : R M0 ss m) (hE : ∀ d H1, d ∉ L → d ∉ ad M → F d = none → H1 d = some (.xd [(fl, .int m)]) → Ok K F L σ H1 ρ M → E σ (.ref C) (some d) H1) (o : Ok K F L σ H ρ M) : tCallV P w K mg base k i E tr σ H Q :=
  callV hc h ha o fun vs H1 o1 e1 a1 x1 => hs _ _ _ _ (x_spX o1 M0 hM x1 hR hE)
/-! ### for over a tuple of defs -/
theorem refs_of : ∀ {fs : List Addr} {vs : List V} {G : Hp}, Paired (SlOk K G) vs (fs.map fun f => Sl.loc (.ref f)) → vs = fs.map V.ref
  | [], _, _, h => by cases h; rfl
  | f :: fs, _, _, h => by
    cases h with
    | cons h a =>
      have e := refs_of a
      have e2 : _ = V.ref f := h
      rw [e, e2]; rfl
theorem s_forF {j : Nat} {fs : List Addr} (J : Nat → List Sl → Ms → Prop) (h : EvA K tr ρ M (fs.map fun f => Sl.loc (.ref f)) M) (hl : fs.length ≤ 1000) (h0 : J 0 ρ M)
    (hs : ∀ F', Same F F' → ∀ i f, fs[i]? = some f → ∀ ρ M, J i ρ M → ∀ σ H, Ok K F' L σ H (ρ.set j (.loc (.ref f))) M → tu { D with nx := fun σ H => ∃ ρ M, J (i + 1) ρ M ∧ Ok K F' L σ H ρ M, ct := fun σ H => ∃ ρ M, J (i + 1) ρ M ∧ Ok K F' L σ H ρ M, bk := D.nx } σ H)
    (hd : ∀ ρ M, J fs.length ρ M → ∀ σ H, Ok K F L σ H ρ M → D.nx σ H) (o : Ok K F L σ H ρ M) : tFor (iTup K (tTup tr)) (gName j) tu D σ H := h F L σ H o _ fun vs H1 o1 e1 a1 x1 => by
  have ev := refs_of x1
  subst ev
  refine ⟨by rw [List.length_map, sizeLine_eq]; omega, fun a ha => ⟨a, rfl, ⟨fs.map V.ref, .inl (.inl upd_same)⟩, ?_⟩⟩
  have nl : a ∉ L ++ ad M := o1.fresh ha
  have hFa : F a = none := o1.fr.free ha
  have o2 : Ok K (upd F a (.tup (fs.map V.ref))) L σ (upd H1 a (.tup (fs.map V.ref))) ρ M := by
    have o3 := o1.new (x := .tup (fs.map V.ref)) ha
    refine ⟨o3.sl, o3.ob, o3.nd, fun b x e => ?_, fun q hq => ?_, o3.lv⟩
    · by_cases eb : b = a
      · rw [eb, upd_same] at e ⊢; exact e
      · rw [upd_ne eb] at e; exact o3.fr b x e
    · have nq : q ≠ a := fun z => nl (List.mem_append_right _ (by rw [← z]; exact hq))
      rw [upd_ne nq]; exact o3.fn q hq
  have sF : Same F (upd F a (.tup (fs.map V.ref))) := same_new hFa
  refine for_tup (K := K) (a := a) (xs := fs.map V.ref) (fun i σ H' => ∃ ρ M, J i ρ M ∧ Ok K (upd F a (.tup (fs.map V.ref))) L σ H' ρ M) ⟨ρ, M, h0, o2⟩ (fun i σ H' _ ⟨_, _, _, o⟩ => .inl (.inl (o.fr _ _ upd_same))) ?_ ?_
  · rintro i x σ2 H2 hx ⟨ρ2, M2, hJ, o4⟩
    rw [List.getElem?_map] at hx
    cases hp : fs[i]? with
    | none => rw [hp] at hx; cases hx
    | some f =>
      rw [hp] at hx
      have ex : x = .ref f := (Option.some.inj hx).symm
      subst ex
      exact hs _ sF i f hp ρ2 M2 hJ _ _ (Ok.set (s := .loc (.ref f)) o4 rfl)
  · rintro σ2 H2 ⟨ρ2, M2, hJ, o4⟩
    rw [List.length_map] at hJ
    exact hd ρ2 M2 hJ σ2 H2 (o4.unfr sF)
theorem q_forF {j : Nat} {fs : List Addr} (J : Nat → List Sl → Ms → Prop) (h : EvA K tr ρ M (fs.map fun f => Sl.loc (.ref f)) M) (hl : fs.length ≤ 1000) (h0 : J 0 ρ M)
    (hs : ∀ F', Same F F' → ∀ i f, fs[i]? = some f → ∀ ρ M, J i ρ M → ∀ σ H, Ok K F' L σ H (ρ.set j (.loc (.ref f))) M → tu { nx := fun σ H => ∃ ρ M, J (i + 1) ρ M ∧ Ok K F' L σ H ρ M, rt := D.rt, bk := tz D, ct := fun σ H => ∃ ρ M, J (i + 1) ρ M ∧ Ok K F' L σ H ρ M } σ H)
    (hd : ∀ ρ M, J fs.length ρ M → ∀ σ H, Ok K F L σ H ρ M → tz D σ H) (o : Ok K F L σ H ρ M) : tSeq (tFor (iTup K (tTup tr)) (gName j) tu) tz D σ H := s_forF (D := { D with nx := tz D }) J h hl h0 hs hd o
end
/-! ### kinds of promises -/
section
variable {P : Program} {w : World} {K : PySem.W.Frag} {mg : Str → Option Value} {base : Heap} {CX : CXT} {k : Nat} {f : Addr} {fd : FuncData} {ps : List Str}
/-- a promise over data, as one over slots -/
def RP (R : List PyData → PyData → Prop) (M : Ms) (ss : List Sl) (r : PyData) (M' : Ms) : Prop := ∃ ds, ss = ds.map Sl.dat ∧ R ds r ∧ M' = M
theorem spP_ms {R : List PyData → PyData → Prop} {vs : List V} {H : Hp} {Q : VK} {E : XK} (h : spMs K (RP R) vs H Q E) : spP K R vs H Q E := by
  obtain ⟨L, M, ss, r, M', lv, hL, nd, hp, hm, ⟨ds, rfl, hR, rfl⟩, ea, q⟩ := h
  exact ⟨L, ds, r, lv, dpAll_of hp, hR, fun v H1 s1 hv => q v H1 (fun a x e => s1 a x (hid_some e).2) (fun x hx => (hm x hx).mono (hid_mono s1) (by obtain ⟨y, e⟩ := (hm x hx).there; exact (s1 _ _ e).trans e.symm)) hv⟩
end
section
variable {X : Cx} {i j k : Nat} {x : Str} {E : L2.St → XK} {t : TA} {e : Expr} {es : List Expr} {p pos : Pos} {P' : Program} {w' : World} {K' : PySem.W.Frag} {mg' : Str → Option Value} {base' : Heap}
theorem w_callv (e1 : X.prog = P') (e2 : X.w = w') (e3 : X.K = K') (e4 : X.mg = mg') (e5 : X.base = base') (hr : Room j X.A) (hk : k ≤ j) (hx : ∀ σ, PassesAt (L2N.CX X.prog X.w) X σ (E σ)) (hN : X.N[i]? = some x) (hv : Vis X.env.scope x) (ha : PA X (e :: es) t)
    (hd : (x == ("__debug__" : Str)) = false := by decide) (hcd : (x == ("__classdict__" : Str)) = false := by decide)
    (he : starEach (e :: es) X.env = (false, eval e X.env) :: starEach es X.env := by rfl) (hpl : (backTo pos (starEach es X.env)).any (·.1) = false := by rfl) :
    PE X (.Call (.Name x p) (e :: es) [] pos) (tCallV P' w' K' mg' base' k i E t) := by
  subst e1 e2 e3 e4 e5
  exact pe_callv hr hk hx hN hv ha hd hcd he hpl
end
/-- a lambda's body that raises the error with a field -/
theorem lokX {P : Program} {w : World} {K : PySem.W.Frag} {mg : Str → Option Value} {base : Heap} {N ps : List Str} {F : NdefX.NF} {e : Expr} {f C : Addr} {k : Nat} {fl : Str} {R : Ms → List Sl → Int → Prop} (S : NdefX.NScope N ps [] F.scope) (hcl : F.cl = [])
    (hb : ∀ (pm ctv : Value) (us : List Value), us.length = ps.length → bindArgs (PySem.W.kla_fn F.name F.qual F.params e F.scope F.cl pm (.ref F.c) ctv) ⟨us, []⟩ = pure (ps.zip us)) (hl : ∀ M ss m, R M ss m → ss.length = ps.length)
    (hbody : ∀ A outer s H E, Room k (A.deeper (NdefX.envF F f s.heap.objs.size)) → ∃ t, PE (NdefX.ncx (L2N.CX P w) P w K mg base N F f A outer s H E) e t ∧ ∀ M ss m, R M ss m → ∀ (F : Hp) L σ H (Q : VK), (∀ d H1, d ∉ ad M → F d = none → H1 d = some (.xd [(fl, .int m)]) → Ok K F L σ H1 (st0 N ss) M → E (.ref C) (some d) H1) → Ok K F L σ H (st0 N ss) M → t σ H Q) :
    LOk P w K mg base (L2N.CX P w) (k + 1) f F e ps (spX K C fl R) := by
  refine lok_of S hcl hb (fun vs H Q E h => ?_) fun A outer s H vs Q E hr h => ?_
  · obtain ⟨L, M, ss, m, lv, hL, nd, hp, hm, hR, _⟩ := h
    rw [paired_len hp]; exact hl _ _ _ hR
  · obtain ⟨L, M, ss, m, lv, hL, nd, hp, hm, hR, q⟩ := h
    obtain ⟨t, h1, h2⟩ := hbody A outer s H E hr
    have sub : ∀ G : Hp, Same (hid L G) (hid (L ++ ad M) G) := fun G => hid_sub fun a ha => by
      rcases List.mem_append.mp ha with z | z
      · exact z
      · exact hL a z
    refine ⟨t, h1, ?_⟩
    rw [startF_start]
    refine h2 M ss m hR (hid (ad M) H) L _ H _ (fun d H1 n1 n2 hx o1 => q d H1 (by rw [← n2, hid_out n1]) hx o1.fr (o1.mobs fun x hx => hx)) (ok_start (Paired.mapP hp fun _ _ z => z.mono (sub H)) lv (fun y hy => (hm y hy).mono (sub H) rfl) nd (hid_le _ _) fun a ha => hid_in ha)
end Wm

/-! a law with several tables of code objects. -/
namespace Wm
open PySem PySem.Spec PyProof.Rows L2
section
variable {K : PySem.W.Frag} {F F' H H' H0 H1 : Hp} {L : List Addr} {σ σ' : L2.St} {ρ ρ' : List Sl} {M M' Tb : Ms} {te : TE} {tu tv : TS} {D : Ends} {n : Nat}
theorem q_bagsM {j : Nat} {bd : Nat → List PyData} (J : List Sl → Prop) (h : EvB K te ρ n bd) (h0 : J ρ)
    (hs : ∀ F' L' i p ρ (D' : Ends), i < n → J ρ → (∀ ρ M σ H, J ρ → (∀ x ∈ Tb, x ∈ M) → Ok K F' L' σ H ρ M → D'.nx σ H) → ∀ σ H, Ok K F' L' σ H (ρ.set j (.loc (.ref p))) ((p, .lst (bd i)) :: Tb) → tu D' σ H)
    (hd : ∀ ρ, J ρ → ∀ σ H, Ok K F L σ H ρ [] → tv D σ H) (o : Ok K F L σ H ρ Tb) : tSeq (tFor (iList K te) (gName j) tu) tv D σ H := h F (ad Tb ++ L) σ H o.dropM _ fun a ps H1 sH1 hb o1 => by
  obtain ⟨b1, b2, b3, b4, b5, b6⟩ := hb
  have hT : ∀ q ∈ ad Tb, H q ≠ none := fun q hq => o.there (List.mem_append_right _ hq)
  have nTa : a ∉ ad Tb := fun z => hT a z b1
  have nTp : ∀ p ∈ ps, p ∉ ad Tb := fun p hp z => hT p z (b2 p hp)
  have hFp : ∀ p ∈ ps, F p = none := fun p hp => o.fr.free (b2 p hp)
  have tab1 : ∀ x ∈ Tb, MOk K (hid (a :: (ps ++ (ad Tb ++ L))) H1) H1 x.1 x.2 := fun x hx => by
    obtain ⟨y, e⟩ := (o.ob x hx).there
    refine (o.ob x hx).mono (fun b z e2 => ?_) ((sH1 _ _ e).trans e.symm)
    obtain ⟨n1, e3⟩ := hid_some e2
    refine hid_of (fun q => ?_) (sH1 _ _ e3)
    rcases List.mem_cons.mp q with q | q
    · rw [q, b1] at e3; cases e3
    · rcases List.mem_append.mp q with q | q
      · rw [b2 b q] at e3; cases e3
      · refine n1 ?_
        rcases List.mem_append.mp q with q | q
        · exact List.mem_append_right _ q
        · exact List.mem_append_left _ q
  refine ⟨a, rfl, ⟨ps.map V.ref, SqL.of b5⟩, for_list (K := K) (a := a) (xs := ps.map V.ref) (fun i σ H' => ∃ ρ L2, J ρ ∧ (∀ x, x ∈ a :: (ps ++ (ad Tb ++ L)) → x ∈ L2) ∧ Ok K F L2 σ H' ρ [] ∧ H' a = some (.lst (ps.map V.ref)) ∧ (∀ x ∈ Tb, MOk K (hid L2 H') H' x.1 x.2) ∧ ∀ k (p : Addr), i ≤ k → ps[k]? = some p → MOk K (hid L2 H') H' p (.lst (bd k)))
    ⟨ρ, a :: (ps ++ (ad Tb ++ L)), h0, fun _ z => z, o1, b5, tab1, fun k p _ hk => b6 k p hk⟩ (fun i σ H' _ ⟨_, _, _, _, _, ha, _⟩ => SqL.of ha) ?_ ?_⟩
  · rintro i x σ2 H2 hx ⟨ρ2, L2, hJ, hL, o2, ha, ht, hm⟩
    rw [List.getElem?_map] at hx
    cases hp : ps[i]? with
    | none => rw [hp] at hx; cases hx
    | some p =>
      rw [hp] at hx
      have ex : x = .ref p := (Option.some.inj hx).symm
      subst ex
      have pm : p ∈ ps := List.mem_of_getElem? hp
      have hi : i < n := by rw [← b4]; exact (List.getElem?_eq_some_iff.mp hp).1
      have pL : p ∈ L2 := hL p (List.mem_cons_of_mem _ (List.mem_append_left _ pm))
      have TL : ∀ q ∈ ad Tb, q ∈ L2 := fun q hq => hL q (List.mem_cons_of_mem _ (List.mem_append_right _ (List.mem_append_left _ hq)))
      have nap : a ≠ p := fun e => by rw [List.nodup_cons] at b3; rw [e] at b3; exact b3.1 pm
      have npT : p ∉ ad Tb := nTp p pm
      have o3 : Ok K (hid (p :: ad Tb) H2) L2 (σ2.set j (some (.ref p))) H2 (ρ2.set j (.loc (.ref p))) ((p, .lst (bd i)) :: Tb) := by
        refine Ok.pickM (Ok.set (s := .loc (.ref p)) o2 rfl) (fun x hx => ?_) (List.nodup_cons.mpr ⟨npT, o.nd⟩) (hid_le _ _)
        rcases List.mem_cons.mp hx with z | z
        · rw [z]; exact ⟨pL, hm i p (Nat.le_refl _) hp, hid_in List.mem_cons_self⟩
        · have zx : x.1 ∈ ad Tb := List.mem_map.mpr ⟨x, z, rfl⟩
          exact ⟨TL _ zx, ht x z, hid_in (List.mem_cons_of_mem _ zx)⟩
      refine hs (hid (p :: ad Tb) H2) L2 i p ρ2 _ hi hJ (fun ρ3 M3 σ3 H3 hJ3 hM3 o4 => ?_) _ _ o3
      have o5 := o4.dropM
      have sF : Same F (hid (p :: ad Tb) H2) := fun b y e => hid_of (fun z => by
        rcases List.mem_cons.mp z with z | z
        · rw [z, hFp p pm] at e; cases e
        · rw [o.fn b z] at e; cases e) (o2.fr b y e)
      have aout : a ∉ p :: ad Tb := fun z => by
        rcases List.mem_cons.mp z with z | z
        · exact nap z
        · exact nTa z
      refine ⟨ρ3, ad M3 ++ L2, hJ3, fun x hx => List.mem_append_right _ (hL x hx), o5.unfr sF, o4.fr _ _ (hid_of aout ha), fun x hx => (o4.ob _ (hM3 x hx)).mono (hid_sub fun a ha => ?_) rfl, fun k q hk hq => ?_⟩
      · rcases List.mem_append.mp ha with z | z
        · exact List.mem_append_right _ z
        · exact List.mem_append_left _ z
      have nqp : q ≠ p := fun e => by
        rw [List.nodup_cons] at b3
        have h1 := hq
        rw [e] at h1
        have := (List.getElem?_inj (List.getElem?_eq_some_iff.mp hp).1 b3.2).mp (hp.trans h1.symm)
        omega
      have qout : q ∉ p :: ad Tb := fun z => by
        rcases List.mem_cons.mp z with z | z
        · exact nqp z
        · exact nTp q (List.mem_of_getElem? hq) z
      refine (hm k q (by omega) hq).mono (fun b y e => ?_) ?_
      · obtain ⟨n1, e1⟩ := hid_some e
        have bout : b ∉ p :: ad Tb := fun z => by
          rcases List.mem_cons.mp z with z | z
          · exact n1 (by rw [z]; exact pL)
          · exact n1 (TL b z)
        have e2 : hid (p :: ad Tb) H2 b = some y := hid_of bout e1
        refine hid_of (fun z => ?_) (o4.fr _ _ e2)
        rcases List.mem_append.mp z with z | z
        · rw [o4.fn b z] at e2; cases e2
        · exact n1 z
      · obtain ⟨z, ez⟩ := (hm k q (by omega) hq).there
        rw [ez]; exact o4.fr _ _ (hid_of qout ez)
  · rintro σ2 H2 ⟨ρ2, L2, hJ, hL, o2, _, _⟩
    exact hd ρ2 hJ σ2 H2 (o2.less fun x hx => hL x (List.mem_cons_of_mem _ (List.mem_append_right _ (List.mem_append_right _ hx))))
end
section
variable {P : Program} {w : World} {K : PySem.W.Frag} {mg : Str → Option Value} {base : Heap} {st : Stmt} {x : Str} {f c : Addr} {dV kV doc pm ct oc : Value} {an od : Option Addr} {osl : Array (Option Value)} {N ps : List Str} {k : Nat}
/-- a def whose code object is told -/
theorem okMsC {R : Ms → List Sl → PyData → Ms → Prop} (lk : K.lookup f = some ⟨oc, od, .func (PySem.W.fnOf x x (defArgs st) (defBody st) (defScope st) dV kV doc pm an (.ref c) ct), osl⟩) (hcd : PySem.W.codeIn K (.ref c) x = true) (S : FnScope N ps (defScope st)) (hl : ∀ M ss r M', R M ss r M' → ss.length = ps.length)
    (hb : ∀ A outer s H E, Room k (A.deeper (envOfC x (defScope st) s.heap.objs.size f (.ref c))) → ∃ t, PSs (cxOf CX0 P w K mg base N x (defScope st) f (.ref c) A outer s H E).nox (defBody st) t ∧
      ∀ M ss r M', R M ss r M' → ∀ (F : Hp) L σ H (D : Ends), (∀ v H', Same F H' → (∀ x ∈ M', MOk K (hid L H') H' x.1 x.2) → Dp K (hid L H') v r → D.rt v H') → (∀ a ∈ ad M, a ∈ L) → Ok K F L σ H (st0 N ss) M → t D σ H) :
    FnOk P w K mg base CX0 (k + 1) f (PySem.W.fnOf x x (defArgs st) (defBody st) (defScope st) dV kV doc pm an (.ref c) ct) ps (spMs K R) := by
  refine fn_of lk hcd S (fun vs H Q E h => ?_) fun A outer s H vs Q E hr h => ?_
  · obtain ⟨L, M, ss, r, M', lv, hL, nd, hp, hm, hR, _⟩ := h
    rw [paired_len hp]; exact hl _ _ _ _ hR
  · obtain ⟨L, M, ss, r, M', lv, hL, nd, hp, hm, hR, ea, q⟩ := h
    obtain ⟨t, h1, h2⟩ := hb A outer s H E hr
    have sub : ∀ G : Hp, Same (hid L G) (hid (L ++ ad M) G) := fun G => hid_sub fun a ha => by
      rcases List.mem_append.mp ha with z | z
      · exact z
      · exact hL a z
    exact ⟨t, h1.nox, h2 M ss r M' hR (hid (ad M) H) L _ H _ (fun v H' s2 g1 g2 => q v H' s2 g1 g2) hL (ok_start (Paired.mapP hp fun _ _ z => z.mono (sub H)) lv (fun y hy => (hm y hy).mono (sub H) rfl) nd (hid_le _ _) fun a ha => hid_in ha)⟩
/-- what a law with two tables promises -/
def spLaw2 (K : PySem.W.Frag) (P1 P2 : Addr) : Sp := fun vs H Q _ => ∃ (a : Addr) (ns : List Int), vs = [.ref a] ∧ SqL K H a (ns.map V.int) ∧ H P1 = some (.tbl #[]) ∧ H P2 = some (.tbl #[]) ∧ ns.length ≤ 63 ∧ ∀ H', Q (.bl true) H'
theorem tab_empty {H0 H : Hp} {T : Addr} {nm : Nat → Nat → Str} (h : H T = some (.tbl #[])) : MOk K H0 H T (.tab nm) := ⟨#[], h, True.intro, fun pos cv z => by
  have z' : codeAmong pos [] = some cv := z
  simp [codeAmong] at z'⟩
theorem okLaw2 {T1 T2 : Addr} {n1 n2 : Nat → Nat → Str} (ne : T1 ≠ T2) (lk : K.lookup f = some ⟨oc, od, .func (PySem.W.fnOf x x (defArgs st) (defBody st) (defScope st) dV kV doc pm an (.ref c) ct), osl⟩) (hcd : PySem.W.codeIn K (.ref c) x = true) (S : FnScope N ps (defScope st)) (hl : ps.length = 1)
    (hb : ∀ A outer s H E, Room k (A.deeper (envOfC x (defScope st) s.heap.objs.size f (.ref c))) → ∃ t, PSs (cxOf CX0 P w K mg base N x (defScope st) f (.ref c) A outer s H E).nox (defBody st) t ∧
      ∀ xs : List Int, xs.length ≤ 63 → ∀ (F : Hp) L σ H (D : Ends), (∀ H', D.rt (.bl true) H') → Ok K F L σ H (st0 N [.dat (dScr xs)]) [(T1, .tab n1), (T2, .tab n2)] → t D σ H) :
    FnOk P w K mg base CX0 (k + 1) f (PySem.W.fnOf x x (defArgs st) (defBody st) (defScope st) dV kV doc pm an (.ref c) ct) ps (spLaw2 K T1 T2) := by
  refine fn_of lk hcd S (fun vs H Q E h => ?_) fun A outer s H vs Q E hr h => ?_
  · obtain ⟨a, ns, rfl, _⟩ := h
    rw [hl]; rfl
  · obtain ⟨a, ns, rfl, hS, hT1, hT2, hl, q⟩ := h
    obtain ⟨t, h1, h2⟩ := hb A outer s H E hr
    have out : ∀ {o : HO}, H a = some o → (∀ ps, o ≠ .tbl ps) → a ∉ [T1, T2] := fun {o} e ho z => by
      rcases List.mem_cons.mp z with z | z
      · rw [z, hT1] at e; exact ho _ (Option.some.inj e).symm
      · rw [List.mem_singleton.mp z, hT2] at e; exact ho _ (Option.some.inj e).symm
    refine ⟨t, h1.nox, h2 ns hl (hid [T1, T2] H) [] _ H _ q (ok_start (.cons ?_ .nil) (fun p hp => by simp at hp) (fun x hx => ?_) (by simp [ad, ne]) (hid_le _ _) (fun p hp => hid_in (by simpa [ad] using hp)))⟩
    · refine Dp.scr ?_
      rcases hS with hS | hS
      · refine .inl ?_
        rcases hS with hS | ⟨o, hS⟩
        · exact .inl (hid_of (out hS (fun ps z => nomatch z)) hS)
        · exact .inr ⟨o, hid_of (out hS (fun ps z => nomatch z)) hS⟩
      · exact .inr hS
    · rcases List.mem_cons.mp hx with z | z
      · rw [z]; exact tab_empty hT1
      · rw [List.mem_singleton.mp z]; exact tab_empty hT2
end
end Wm

namespace Wm
open PySem L2 PySem.Spec PyProof.Rows
def topS (i : Nat) : Stmt := PySem.Challenge.pw_warmcold_k15_who_is_refused.main.body.getD i (.Pass ⟨0, 0, 0, 0⟩)
local macro_rules | `(tactic| wtm_at "evx") => `(tactic| fail)
local macro_rules | `(tactic| wtm_at "side") => `(tactic| first | rfl | decide | assumption | omega | (focus (simp; done)) | (simp; omega))
local macro_rules | `(tactic| wtm_at "ed") => `(tactic| first
  | ((with_reducible apply ed_cons) <;> first | wtm_at "ed" | wtm_at "ev")
  | (with_reducible exact ed_nil))
local macro_rules | `(tactic| wtm_at "ea") => `(tactic| first
  | (with_reducible exact EvA.nil)
  | ((with_reducible apply EvA.cons); (wtm_at "ev"); (wtm_at "ea")))
local macro_rules | `(tactic| wtm_at "eo") => `(tactic| first
  | (with_reducible exact eo_no)
  | ((with_reducible apply eo_some); (wtm_at "ev")))
local macro_rules | `(tactic| wtm_at "et") => `(tactic| first
  | ((with_reducible apply et_test); (wtm_at "ev"))
  | ((with_reducible apply et_B); (wtm_at "ev"))
  | ((with_reducible apply et_not); (wtm_at "et"))
  | ((with_reducible apply et_or2); (wtm_at "et"); (wtm_at "et"))
  | ((with_reducible apply et_and2); (wtm_at "et"); (wtm_at "et")))
local macro_rules | `(tactic| wtm_at "ei") => `(tactic| first
  | ((with_reducible apply ei_list); (wtm_at "ev"))
  | ((with_reducible apply ei_tup); (wtm_at "ev"))
  | ((with_reducible apply ei_rng1); (wtm_at "ea"); (omega); (omega))
  | ((with_reducible apply ei_rng2); (wtm_at "ea"); (omega))
  | ((with_reducible apply ei_enum); (wtm_at "ea"))
  | ((with_reducible apply ei_zip); (wtm_at "ea")))
local macro_rules | `(tactic| wtm_at "eg") => `(tactic| (intro i hi; first | (with_reducible exact eg_name) | exact eg_two))
local macro_rules | `(tactic| wtm_at "en") => `(tactic| first
  | (wtm_at "evx")
  | ((with_reducible apply evn_lstD); (wtm_at "ed"); (first | decide | (focus (simp; done))))
  | ((with_reducible apply evn_listL); (wtm_at "ea"))
  | ((with_reducible apply evn_listT); (wtm_at "ea"))
  | ((with_reducible apply evn_slL); (wtm_at "ev"); (wtm_at "eo"); (wtm_at "eo")))
local macro_rules | `(tactic| wtm_at "ev") => `(tactic| first
  | ((with_reducible apply ev_varD); rfl)
  | ((with_reducible apply ev_varL); rfl)
  | (with_reducible exact ev_int)
  | (with_reducible exact ev_str)
  | (with_reducible exact ev_bl)
  | (with_reducible exact ev_non)
  | ((with_reducible apply ev_ite2); (wtm_at "et"); (wtm_at "ev"); (wtm_at "ev"))
  | ((with_reducible apply ev_andV2); (wtm_at "ev"); (wtm_at "ev"))
  | ((with_reducible apply ev_orV2); (wtm_at "ev"); (wtm_at "ev"))
  | ((with_reducible apply ev_add) <;> wtm_at "ev")
  | ((with_reducible apply ev_sub) <;> wtm_at "ev")
  | ((with_reducible apply ev_eqI) <;> wtm_at "ev")
  | ((with_reducible apply ev_neI) <;> wtm_at "ev")
  | ((with_reducible apply ev_eqS) <;> wtm_at "ev")
  | ((with_reducible apply ev_neS) <;> wtm_at "ev")
  | ((with_reducible apply ev_lt) <;> wtm_at "ev")
  | ((with_reducible apply ev_le) <;> wtm_at "ev")
  | ((with_reducible apply ev_gt) <;> wtm_at "ev")
  | ((with_reducible apply ev_ge) <;> wtm_at "ev")
  | ((with_reducible apply ev_neg) <;> wtm_at "ev")
  | (wtm_at "evx")
  | ((with_reducible apply ev_abs); (wtm_at "ea"))
  | ((with_reducible apply ev_max2); (wtm_at "ea"))
  | ((with_reducible apply ev_min2); (wtm_at "ea"))
  | ((with_reducible apply ev_lenL); (wtm_at "ea"))
  | ((with_reducible apply ev_lenT); (wtm_at "ea"))
  | ((with_reducible apply ev_lenScr); (wtm_at "ea"))
  | ((with_reducible apply ev_intB); (wtm_at "ea"))
  | ((with_reducible apply ev_isi); (wtm_at "ev"); (focus (simp; done)))
  | ((with_reducible apply ev_notV); (wtm_at "ev"))
  | ((with_reducible apply ev_isN); (wtm_at "ev"))
  | ((with_reducible apply ev_notN); (wtm_at "ev"))
  | ((with_reducible apply ev_tupD); (wtm_at "ed"); (first | decide | (focus (simp; done))))
  | ((with_reducible apply ev_mul); (wtm_at "ev"); (wtm_at "ev"); (wtm_at "side"))
  | ((with_reducible apply ev_mod); (wtm_at "ev"); (wtm_at "ev"); (wtm_at "side"))
  | ((with_reducible apply ev_div); (wtm_at "ev"); (wtm_at "ev"); (wtm_at "side"))
  | ((with_reducible apply ev_ixI); (wtm_at "ev"); (wtm_at "ev"); (wtm_at "side"); (wtm_at "side"))
  | ((with_reducible apply ev_ixS); (wtm_at "ev"); (wtm_at "ev"); (wtm_at "side"); (wtm_at "side"))
  | ((with_reducible apply EvN.ev); (wtm_at "en")))
local macro_rules | `(tactic| wtm_at "evd") => `(tactic| (apply ev_isD; (wtm_at "ev")))
local macro_rules | `(tactic| wtm_at "end") => `(tactic| (apply evn_is; (wtm_at "en")))
local macro_rules | `(tactic| wtm_at "etd") => `(tactic| (apply et_is; (wtm_at "et")))
section
variable {P : Program} {w : World} {K : PySem.W.Frag} {mg : Str → Option Value} {base : Heap}
/-! what the defs of paths give -/
def within : PyData → Int → Int → Bool
  | .int i, lo, hi => decide (lo ≤ i) && decide (i ≤ hi)
  | _, _, _ => false
def wSame : Str := "same"
def wWarm : Str := "warm"
def wCold : Str := "cold"
def wordOf (far near : Int) : Str := if far = near then wSame else if near < far then wWarm else wCold
def ansOf (t b n : Int) : Str := wordOf (t - b).natAbs (t - n).natAbs
def answers (t : Int) (xs : List Int) : List Str := (List.range (xs.length - 1)).map fun i => ansOf t (xs.getD i 0) (xs.getD (i + 1) 0)
abbrev dI (xs : List Int) : PyData := .list (xs.map PyData.int)
abbrev dS (xs : List Str) : PyData := .list (xs.map PyData.str)
abbrev dTI (xs : List Int) : PyData := .tuple (xs.map PyData.int)
def R_is_within (ds : List PyData) (r : PyData) : Prop := ∃ d lo hi, ds = [d, .int lo, .int hi] ∧ r = .bool (within d lo hi)
theorem ev_is_within {K : PySem.W.Frag} {ta tb tc : TE} {ρ : List Sl} {M M1 M2 M3 : Ms} {E : XK} {d : PyData} {lo hi : Int} (ha : Ev K ta ρ M (.dat d) M1) (hb : Ev K tb ρ M1 (.dat (.int lo)) M2) (hc : Ev K tc ρ M2 (.dat (.int hi)) M3) :
    Ev K (tCall (spP K R_is_within) [] E (tCons ta (tCons tb (tCons tc tNil)))) ρ M (.dat (.bool (within d lo hi))) M3 := ev_callD (ed_cons ha (ed_cons hb (ed_cons hc ed_nil))) ⟨d, lo, hi, rfl, rfl⟩
abbrev s_is_within : Stmt := topS 15
theorem sc_is_within : FnScope ["thing", "low", "high"] ["thing", "low", "high"] (defScope s_is_within) := ⟨rfl, rfl, rfl, by decide +kernel, rfl, by decide +kernel, by decide +kernel⟩
theorem ok_is_within (T : Raw K mg "is_within" "is_within" s_is_within) (B : Bl mg)    : Has P w K mg base 1 "is_within" ["thing", "low", "high"] (spP K R_is_within) := by
  obtain ⟨f, fd, Fn, hg⟩ := T
  refine ⟨f, fd, okP Fn sc_is_within ?len (fun cdv A outer s H E hr => ⟨_, (pss_one (ps_ret (pe_and (pe_callB (w_isi (K' := K) rfl) (by rfl) B.isinstance_ (by decide +kernel) (pa_cons (pv 0) (pa_cons (pe_bltn (by rfl) B.int_ (by decide +kernel) (show RelV (.ty "int") _ from rfl)) pa_nil))) (pe_and (pe_not (pe_callB (w_isi (K' := K) rfl) (by rfl) B.isinstance_ (by decide +kernel) (pa_cons (pv 0) (pa_cons (pe_bltn (by rfl) B.bool_ (by decide +kernel) (show RelV (.ty "bool") _ from rfl)) pa_nil)))) (pe_one (pe_chain op_le op_le (pv 1) (pv 0) (pv 2))))))), ?_⟩), hg, Fn.kp, Fn.binds fun _ _ _ _ _ _ us hl => match us, hl with | [_, _, _], _ => rfl⟩
  case len =>
    rintro ds r ⟨d, lo, hi, rfl, rfl⟩; rfl
  rintro ds r ⟨d, lo, hi, rfl, rfl⟩ F L σ H D hrt hnx o
  try dsimp only [cxOf]
  refine s_retP0 ?_ hrt o
  cases d with
  | int i => exact ev_isD (ev_andV (by wtm_at "ev") fun _ => ev_andV (by wtm_at "ev") fun _ => ev_chain (p := fun i j => decide (i ≤ j)) (p' := fun i j => decide (i ≤ j)) rfl rfl (by wtm_at "ev") (by wtm_at "ev") (by wtm_at "ev")) (by simp [isD, tyD, within])
  | bool b => exact ev_isD (ev_andV (by wtm_at "ev") fun _ => ev_andV (b := false) (by wtm_at "ev") fun e => by simp [isD, tyD] at e) (by simp [isD, tyD, within])
  | none => exact ev_isD (ev_andV (b := false) (by wtm_at "ev") fun e => by simp [isD, tyD] at e) (by simp [isD, tyD, within])
  | str x => exact ev_isD (ev_andV (b := false) (by wtm_at "ev") fun e => by simp [isD, tyD] at e) (by simp [isD, tyD, within])
  | list x => exact ev_isD (ev_andV (b := false) (by wtm_at "ev") fun e => by simp [isD, tyD] at e) (by simp [isD, tyD, within])
  | tuple x => exact ev_isD (ev_andV (b := false) (by wtm_at "ev") fun e => by simp [isD, tyD] at e) (by simp [isD, tyD, within])
  | dict x => exact ev_isD (ev_andV (b := false) (by wtm_at "ev") fun e => by simp [isD, tyD] at e) (by simp [isD, tyD, within])
local macro_rules | `(tactic| wtm_at "evx") => `(tactic| ((with_reducible apply ev_is_within); (wtm_at "ev"); (wtm_at "ev"); (wtm_at "ev")))
def R_need_length (ds : List PyData) (r : PyData) : Prop := ∃ d, ds = [d] ∧ within d 1 60 = true ∧ r = .none
theorem ev_need_length {K : PySem.W.Frag} {ta : TE} {ρ : List Sl} {M M1 : Ms} {E : XK} {d : PyData} (ha : Ev K ta ρ M (.dat d) M1) (h : within d 1 60 = true) :
    Ev K (tCall (spP K R_need_length) [] E (tCons ta tNil)) ρ M (.dat .none) M1 := ev_callD (ed_cons ha ed_nil) ⟨d, rfl, h, rfl⟩
abbrev s_need_length : Stmt := topS 16
theorem sc_need_length : FnScope ["length"] ["length"] (defScope s_need_length) := ⟨rfl, rfl, rfl, by decide +kernel, rfl, by decide +kernel, by decide +kernel⟩
theorem ok_need_length (T : Raw K mg "need_length" "need_length" s_need_length) (B : Bl mg)   (h_is_within : Has P w K mg base 1 "is_within" ["thing", "low", "high"] (spP K R_is_within)) : Has P w K mg base 2 "need_length" ["length"] (spP K R_need_length) := by
  obtain ⟨f, fd, Fn, hg⟩ := T
  obtain ⟨_, _, G_is_within, g_is_within, k_is_within, b_is_within⟩ := h_is_within
  refine ⟨f, fd, okP Fn sc_need_length ?len (fun cdv A outer s H E hr => ⟨_, (pss_one (ps_if (pt_not (pt_val (pe_call G_is_within (hr.mono (by first | decide | omega)) (by rfl) g_is_within k_is_within b_is_within .nil pass0 (pa_cons (pv 0) (pa_cons pe_int (pa_cons pe_int pa_nil)))))) (pss_one ps_never) pss_nil)), ?_⟩), hg, Fn.kp, Fn.binds fun _ _ _ _ _ _ us hl => match us, hl with | [_], _ => rfl⟩
  case len =>
    rintro ds r ⟨d, rfl, hw, rfl⟩; rfl
  rintro ds r ⟨d, rfl, hw, rfl⟩ F L σ H D hrt hnx o
  try dsimp only [cxOf]
  refine s_ifF0 (et_is (by wtm_at "et") (by rw [hw]; rfl)) (fun H o => ?_) o
  exact hnx _ _ o.fr rfl
def R_need_place (ds : List PyData) (r : PyData) : Prop := ∃ n d, ds = [.int n, d] ∧ within d 1 n = true ∧ r = .none
theorem ev_need_place {K : PySem.W.Frag} {ta tb : TE} {ρ : List Sl} {M M1 M2 : Ms} {E : XK} {n : Int} {d : PyData} (ha : Ev K ta ρ M (.dat (.int n)) M1) (hb : Ev K tb ρ M1 (.dat d) M2) (h : within d 1 n = true) :
    Ev K (tCall (spP K R_need_place) [] E (tCons ta (tCons tb tNil))) ρ M (.dat .none) M2 := ev_callD (ed_cons ha (ed_cons hb ed_nil)) ⟨n, d, rfl, h, rfl⟩
abbrev s_need_place : Stmt := topS 18
theorem sc_need_place : FnScope ["length", "place"] ["length", "place"] (defScope s_need_place) := ⟨rfl, rfl, rfl, by decide +kernel, rfl, by decide +kernel, by decide +kernel⟩
theorem ok_need_place (T : Raw K mg "need_place" "need_place" s_need_place) (B : Bl mg)   (h_is_within : Has P w K mg base 1 "is_within" ["thing", "low", "high"] (spP K R_is_within)) : Has P w K mg base 2 "need_place" ["length", "place"] (spP K R_need_place) := by
  obtain ⟨f, fd, Fn, hg⟩ := T
  obtain ⟨_, _, G_is_within, g_is_within, k_is_within, b_is_within⟩ := h_is_within
  refine ⟨f, fd, okP Fn sc_need_place ?len (fun cdv A outer s H E hr => ⟨_, (pss_one (ps_if (pt_not (pt_val (pe_call G_is_within (hr.mono (by first | decide | omega)) (by rfl) g_is_within k_is_within b_is_within .nil pass0 (pa_cons (pv 1) (pa_cons pe_int (pa_cons (pv 0) pa_nil)))))) (pss_one ps_never) pss_nil)), ?_⟩), hg, Fn.kp, Fn.binds fun _ _ _ _ _ _ us hl => match us, hl with | [_, _], _ => rfl⟩
  case len =>
    rintro ds r ⟨n, d, rfl, hw, rfl⟩; rfl
  rintro ds r ⟨n, d, rfl, hw, rfl⟩ F L σ H D hrt hnx o
  try dsimp only [cxOf]
  refine s_ifF0 (et_is (by wtm_at "et") (by rw [hw]; rfl)) (fun H o => ?_) o
  exact hnx _ _ o.fr rfl
def stOk (n : Int) (xs : List Int) : Prop := xs.length ≤ 40 ∧ ∀ x ∈ xs, 1 ≤ x ∧ x ≤ n
def R_need_stands (ds : List PyData) (r : PyData) : Prop := ∃ n xs, ds = [.int n, dI xs] ∧ stOk n xs ∧ r = .none
theorem ev_need_stands {K : PySem.W.Frag} {ta tb : TE} {ρ : List Sl} {M M1 M2 : Ms} {E : XK} {n : Int} {xs : List Int} (ha : Ev K ta ρ M (.dat (.int n)) M1) (hb : Ev K tb ρ M1 (.dat (dI xs)) M2) (h : stOk n xs) :
    Ev K (tCall (spP K R_need_stands) [] E (tCons ta (tCons tb tNil))) ρ M (.dat .none) M2 := ev_callD (ed_cons ha (ed_cons hb ed_nil)) ⟨n, xs, rfl, h, rfl⟩
abbrev s_need_stands : Stmt := topS 19
theorem sc_need_stands : FnScope ["length", "stands", "one"] ["length", "stands"] (defScope s_need_stands) := ⟨rfl, rfl, rfl, by decide +kernel, rfl, by decide +kernel, by decide +kernel⟩
theorem ok_need_stands (T : Raw K mg "need_stands" "need_stands" s_need_stands) (B : Bl mg)   (h_is_within : Has P w K mg base 1 "is_within" ["thing", "low", "high"] (spP K R_is_within)) : Has P w K mg base 2 "need_stands" ["length", "stands"] (spP K R_need_stands) := by
  obtain ⟨f, fd, Fn, hg⟩ := T
  obtain ⟨_, _, G_is_within, g_is_within, k_is_within, b_is_within⟩ := h_is_within
  refine ⟨f, fd, okP Fn sc_need_stands ?len (fun cdv A outer s H E hr => ⟨_, (pss_one (ps_if (PW.pt (pw_or (pt_not (pt_val (pe_callB (w_isi (K' := K) rfl) (by rfl) B.isinstance_ (by decide +kernel) (pa_cons (pv 1) (pa_cons (pe_bltn (by rfl) B.list_ (by decide +kernel) (show RelV (.ty "list") _ from rfl)) pa_nil))))) (pw_or (pt_cmpR op_gt (pe_callB (w_len (K' := K) rfl) (by rfl) B.len_ (by decide +kernel) (pa_cons (pv 1) pa_nil)) pe_int (nomark _)) (pw_or1 (pt_not (pt_val (pe_callB (w_all (K' := K) rfl rfl) (by rfl) B.all_ (by decide +kernel) (pa_cons (pe_lc (own := [("one", 2)]) (g := gName 2) rfl sc_need_stands.nd (wi_list (K' := K) rfl (pv 1)) (blkOk_by (own := [("one", 2)]) (N := ["length", "stands", "one"]) (sc := defScope s_need_stands) (by decide +kernel)) (fun _ _ _ _ _ => (pg_name (i := 2) sc_need_stands.nd rfl (by first | exact .inl rfl | exact .inr rfl))) (fun _ _ _ _ _ => pts_nil) (fun _ _ _ _ _ => (pe_call G_is_within (hr.mono (by first | decide | omega)) (by rfl) g_is_within k_is_within b_is_within .nil pass0 (pa_cons (pv 2) (pa_cons pe_int (pa_cons (pv 0) pa_nil)))))) pa_nil)))))))) (pss_one ps_never) pss_nil)), ?_⟩), hg, Fn.kp, Fn.binds fun _ _ _ _ _ _ us hl => match us, hl with | [_, _], _ => rfl⟩
  case len =>
    rintro ds r ⟨n, xs, rfl, ⟨hl, hx⟩, rfl⟩; rfl
  rintro ds r ⟨n, xs, rfl, ⟨hl, hx⟩, rfl⟩ F L σ H D hrt hnx o
  try dsimp only [cxOf]
  have hall : (xs.map fun x => within (.int x) 1 n).all id = true := by
    rw [List.all_eq_true]
    intro b hb
    obtain ⟨x, h1, rfl⟩ := List.mem_map.mp hb
    simp [within, hx x h1]
  refine s_ifF0 ?_ (fun H o => hnx _ _ o.fr rfl) o
  apply et_orF
  · apply et_is
    · wtm_at "et"
    rfl
  apply et_orF
  · apply et_is
    · wtm_at "et"
    simp; omega
  apply et_notF
  apply et_B
  refine ev_isD (ev_allB (bs := xs.map fun x => within (.int x) 1 n) ?_) (by rw [hall])
  refine EvA.cons (EvN.ev (evn_is (evn_lcP (fun i => .bool (within (.int (xs.getD i 0)) 1 n)) (by wtm_at "ei") (by wtm_at "eg") (by simp) ?el (by simp; omega)) ?eq)) EvA.nil
  case el =>
    intro i hi
    simp only [List.length_map] at hi
    rw [getD_map_int xs i hi]
    wtm_at "ev"
  case eq =>
    rw [List.length_map, range_map_getD xs 0 fun x => PyData.bool (within (.int x) 1 n), List.map_map]
    rfl
def R_word_for (ds : List PyData) (r : PyData) : Prop := ∃ f n : Int, ds = [.int f, .int n] ∧ r = .str (wordOf f n)
theorem ev_word_for {K : PySem.W.Frag} {ta tb : TE} {ρ : List Sl} {M M1 M2 : Ms} {E : XK} {f n : Int} (ha : Ev K ta ρ M (.dat (.int f)) M1) (hb : Ev K tb ρ M1 (.dat (.int n)) M2) :
    Ev K (tCall (spP K R_word_for) [] E (tCons ta (tCons tb tNil))) ρ M (.dat (.str (wordOf f n))) M2 := ev_callD (ed_cons ha (ed_cons hb ed_nil)) ⟨f, n, rfl, rfl⟩
abbrev s_word_for : Stmt := topS 22
theorem sc_word_for : FnScope ["far", "near"] ["far", "near"] (defScope s_word_for) := ⟨rfl, rfl, rfl, by decide +kernel, rfl, by decide +kernel, by decide +kernel⟩
theorem ok_word_for (T : Raw K mg "word_for" "word_for" s_word_for) (B : Bl mg)    : Has P w K mg base 1 "word_for" ["far", "near"] (spP K R_word_for) := by
  obtain ⟨f, fd, Fn, hg⟩ := T
  refine ⟨f, fd, okP Fn sc_word_for ?len (fun cdv A outer s H E hr => ⟨_, (pss_cons (ps_if (pt_cmpR op_eq (pv 0) (pv 1) (nomark _)) (pss_one (ps_ret pe_str)) pss_nil)
      (pss_one (ps_ret (pe_ifExp (pt_cmpR op_lt (pv 1) (pv 0) (nomark _)) pe_str pe_str)))), ?_⟩), hg, Fn.kp, Fn.binds fun _ _ _ _ _ _ us hl => match us, hl with | [_, _], _ => rfl⟩
  case len =>
    rintro ds r ⟨f, n, rfl, rfl⟩; rfl
  rintro ds r ⟨f, n, rfl, rfl⟩ F L σ H D hrt hnx o
  try dsimp only [cxOf]
  refine q_ifR0 (b := decide (f = n)) (by wtm_at "et") (fun e H o => s_retP0 ?_ hrt o) (fun e H o => s_retP0 ?_ hrt o) o
  · wtm_at "evd"
    unfold wordOf; rw [if_pos (of_decide_eq_true e)]; rfl
  · wtm_at "evd"
    unfold wordOf; rw [if_neg (of_decide_eq_false e)]
    by_cases h : n < f
    · rw [if_pos h, decide_eq_true h]; rfl
    · rw [if_neg h, decide_eq_false h]; rfl
local macro_rules | `(tactic| wtm_at "evx") => `(tactic| ((with_reducible apply ev_word_for) <;> wtm_at "ev"))
def R_answer (ds : List PyData) (r : PyData) : Prop := ∃ t b n : Int, ds = [.int t, .int b, .int n] ∧ r = .str (ansOf t b n)
theorem ev_answer {K : PySem.W.Frag} {ta tb tc : TE} {ρ : List Sl} {M M1 M2 M3 : Ms} {E : XK} {t b n : Int} (ha : Ev K ta ρ M (.dat (.int t)) M1) (hb : Ev K tb ρ M1 (.dat (.int b)) M2) (hc : Ev K tc ρ M2 (.dat (.int n)) M3) :
    Ev K (tCall (spP K R_answer) [] E (tCons ta (tCons tb (tCons tc tNil)))) ρ M (.dat (.str (ansOf t b n))) M3 := ev_callD (ed_cons ha (ed_cons hb (ed_cons hc ed_nil))) ⟨t, b, n, rfl, rfl⟩
abbrev s_answer : Stmt := topS 23
theorem sc_answer : FnScope ["thing", "before", "now"] ["thing", "before", "now"] (defScope s_answer) := ⟨rfl, rfl, rfl, by decide +kernel, rfl, by decide +kernel, by decide +kernel⟩
theorem ok_answer (T : Raw K mg "answer" "answer" s_answer) (B : Bl mg)   (h_word_for : Has P w K mg base 1 "word_for" ["far", "near"] (spP K R_word_for)) : Has P w K mg base 2 "answer" ["thing", "before", "now"] (spP K R_answer) := by
  obtain ⟨f, fd, Fn, hg⟩ := T
  obtain ⟨_, _, G_word_for, g_word_for, k_word_for, b_word_for⟩ := h_word_for
  refine ⟨f, fd, okP Fn sc_answer ?len (fun cdv A outer s H E hr => ⟨_, (pss_one (ps_ret (pe_call G_word_for (hr.mono (by first | decide | omega)) (by rfl) g_word_for k_word_for b_word_for .nil pass0 (pa_cons (pe_callB c_abs (by rfl) B.abs_ (by decide +kernel) (pa_cons (pe_op op_sub (pv 0) (pv 1)) pa_nil)) (pa_cons (pe_callB c_abs (by rfl) B.abs_ (by decide +kernel) (pa_cons (pe_op op_sub (pv 0) (pv 2)) pa_nil)) pa_nil))))), ?_⟩), hg, Fn.kp, Fn.binds fun _ _ _ _ _ _ us hl => match us, hl with | [_, _, _], _ => rfl⟩
  case len =>
    rintro ds r ⟨t, b, n, rfl, rfl⟩; rfl
  rintro ds r ⟨t, b, n, rfl, rfl⟩ F L σ H D hrt hnx o
  try dsimp only [cxOf]
  exact s_retP0 (by wtm_at "evd"; rfl) hrt o
local macro_rules | `(tactic| wtm_at "evx") => `(tactic| ((with_reducible apply ev_answer) <;> wtm_at "ev"))
def R_all_answers (ds : List PyData) (rs : List PyData) : Prop := ∃ (t : Int) (xs : List Int), ds = [.int t, dI xs] ∧ xs.length ≤ 1000 ∧ rs = (answers t xs).map PyData.str
theorem ev_all_answers {K : PySem.W.Frag} {ta tb : TE} {ρ : List Sl} {M M1 M2 : Ms} {E : XK} {t : Int} {xs : List Int} (ha : Ev K ta ρ M (.dat (.int t)) M1) (hb : Ev K tb ρ M1 (.dat (dI xs)) M2) (hl : xs.length ≤ 1000) :
    EvN K (tCall (spN K R_all_answers) [] E (tCons ta (tCons tb tNil))) ρ M ((answers t xs).map PyData.str) M2 := evn_callD (ed_cons ha (ed_cons hb ed_nil)) ⟨t, xs, rfl, hl, rfl⟩
theorem cutD_tail (xs : List PyData) : cutD xs (some 1) none = xs.drop 1 := by
  unfold cutD
  rw [show HT.sIx xs.length 0 (some 1) = min 1 xs.length from HT.sIx_nat xs.length 0 1, HT.sIx_none]
  cases xs with
  | nil => rfl
  | cons x r =>
    rw [show min 1 (x :: r).length = 1 by rw [List.length_cons]; omega]
    show (List.take ((x :: r).length - 1) r) = r
    rw [List.length_cons, Nat.add_sub_cancel]
    exact List.take_length
abbrev s_all_answers : Stmt := topS 24
theorem sc_all_answers : FnScope ["thing", "stands", "before", "now"] ["thing", "stands"] (defScope s_all_answers) := ⟨rfl, rfl, rfl, by decide +kernel, rfl, by decide +kernel, by decide +kernel⟩
theorem ok_all_answers (T : Raw K mg "all_answers" "all_answers" s_all_answers) (B : Bl mg)   (h_answer : Has P w K mg base 2 "answer" ["thing", "before", "now"] (spP K R_answer)) : Has P w K mg base 3 "all_answers" ["thing", "stands"] (spN K R_all_answers) := by
  obtain ⟨f, fd, Fn, hg⟩ := T
  obtain ⟨_, _, G_answer, g_answer, k_answer, b_answer⟩ := h_answer
  refine ⟨f, fd, okN Fn sc_all_answers ?len (fun cdv A outer s H E hr => ⟨_, (pss_one (ps_ret (pe_lc (own := [("before", 2), ("now", 3)]) (g := gTup K 2 (gCons (gName 2) (gCons (gName 3) gNil))) rfl sc_all_answers.nd (wi_zip (K' := K) rfl (by rfl) B.zip_ (pa_cons (pv 1) (pa_cons (pe_slice (w_slL (K' := K) rfl) (pv 1) (po_some pe_int) po_none) pa_nil))) (blkOk_by (own := [("before", 2), ("now", 3)]) (N := ["thing", "stands", "before", "now"]) (sc := defScope s_all_answers) (by decide +kernel)) (fun _ _ _ _ _ => (pg_tup rfl (pgs_cons (pg_name (i := 2) sc_all_answers.nd rfl (by first | exact .inl rfl | exact .inr rfl)) (pgs_cons (pg_name (i := 3) sc_all_answers.nd rfl (by first | exact .inl rfl | exact .inr rfl)) pgs_nil)))) (fun _ _ _ _ _ => pts_nil) (fun _ _ _ _ _ => (pe_call G_answer (hr.mono (by first | decide | omega)) (by rfl) g_answer k_answer b_answer .nil pass0 (pa_cons (pv 0) (pa_cons (pv 2) (pa_cons (pv 3) pa_nil)))))))), ?_⟩), hg, Fn.kp, Fn.binds fun _ _ _ _ _ _ us hl => match us, hl with | [_, _], _ => rfl⟩
  case len =>
    rintro ds r ⟨t, xs, rfl, hl, rfl⟩; rfl
  rintro ds rs ⟨t, xs, rfl, hl, rfl⟩ F L σ H D hrt o
  try dsimp only [cxOf]
  refine s_retNN0 (evn_is (evn_lcP (fun i => .str (ansOf t (xs.getD i 0) (xs.getD (i + 1) 0))) (by wtm_at "ei") (by wtm_at "eg") (by simp) ?el ?len) ?eq) hrt o
  case el =>
    intro i hi
    rw [cutD_tail] at hi
    simp only [List.length_map, List.length_drop] at hi
    have e1 : (xs.map PyData.int).getD i .none = .int (xs.getD i 0) := getD_map_int xs i (by omega)
    have e2 : (cutD (xs.map PyData.int) (some 1) none).getD i .none = .int (xs.getD (i + 1) 0) := by
      rw [cutD_tail, List.getD_eq_getElem?_getD, List.getElem?_drop, ← List.getD_eq_getElem?_getD, Nat.add_comm, getD_map_int xs (i + 1) (by omega)]
    rw [e1, e2]
    wtm_at "ev"
  case len =>
    rw [cutD_tail]; simp only [List.length_map, List.length_drop]; omega
  case eq =>
    rw [cutD_tail]
    simp only [List.length_map, List.length_drop, answers, List.map_map]
    rw [show min xs.length (xs.length - 1) = xs.length - 1 by omega]
    rfl
local macro_rules | `(tactic| wtm_at "evx") => `(tactic| ((with_reducible apply ev_all_answers); (wtm_at "ev"); (wtm_at "ev"); (wtm_at "side")))
def R_answers_to (ds : List PyData) (rs : List PyData) : Prop := ∃ (n t : Int) (xs : List Int), ds = [.int n, .int t, dI xs] ∧ (1 ≤ n ∧ n ≤ 60) ∧ (1 ≤ t ∧ t ≤ n) ∧ stOk n xs ∧ rs = (answers t xs).map PyData.str
theorem ev_answers_to {K : PySem.W.Frag} {ta tb tc : TE} {ρ : List Sl} {M M1 M2 M3 : Ms} {E : XK} {n t : Int} {xs : List Int} (ha : Ev K ta ρ M (.dat (.int n)) M1) (hb : Ev K tb ρ M1 (.dat (.int t)) M2) (hc : Ev K tc ρ M2 (.dat (dI xs)) M3) (h1 : 1 ≤ n ∧ n ≤ 60) (h2 : 1 ≤ t ∧ t ≤ n) (h3 : stOk n xs) :
    EvN K (tCall (spN K R_answers_to) [] E (tCons ta (tCons tb (tCons tc tNil)))) ρ M ((answers t xs).map PyData.str) M3 := evn_callD (ed_cons ha (ed_cons hb (ed_cons hc ed_nil))) ⟨n, t, xs, rfl, h1, h2, h3, rfl⟩
theorem within_int {i lo hi : Int} (h : lo ≤ i ∧ i ≤ hi) : within (.int i) lo hi = true := by simp [within, h.1, h.2]
abbrev s_answers_to : Stmt := topS 25
theorem sc_answers_to : FnScope ["length", "thing", "stands"] ["length", "thing", "stands"] (defScope s_answers_to) := ⟨rfl, rfl, rfl, by decide +kernel, rfl, by decide +kernel, by decide +kernel⟩
theorem ok_answers_to (T : Raw K mg "answers_to" "answers_to" s_answers_to) (B : Bl mg)   (h_need_length : Has P w K mg base 2 "need_length" ["length"] (spP K R_need_length)) (h_need_place : Has P w K mg base 2 "need_place" ["length", "place"] (spP K R_need_place)) (h_need_stands : Has P w K mg base 2 "need_stands" ["length", "stands"] (spP K R_need_stands)) (h_all_answers : Has P w K mg base 3 "all_answers" ["thing", "stands"] (spN K R_all_answers)) : Has P w K mg base 4 "answers_to" ["length", "thing", "stands"] (spN K R_answers_to) := by
  obtain ⟨f, fd, Fn, hg⟩ := T
  obtain ⟨_, _, G_need_length, g_need_length, k_need_length, b_need_length⟩ := h_need_length
  obtain ⟨_, _, G_need_place, g_need_place, k_need_place, b_need_place⟩ := h_need_place
  obtain ⟨_, _, G_need_stands, g_need_stands, k_need_stands, b_need_stands⟩ := h_need_stands
  obtain ⟨_, _, G_all_answers, g_all_answers, k_all_answers, b_all_answers⟩ := h_all_answers
  refine ⟨f, fd, okN Fn sc_answers_to ?len (fun cdv A outer s H E hr => ⟨_, (pss_cons (ps_expr (pe_call G_need_length (hr.mono (by first | decide | omega)) (by rfl) g_need_length k_need_length b_need_length .nil pass0 (pa_cons (pv 0) pa_nil)))
      (pss_cons (ps_expr (pe_call G_need_place (hr.mono (by first | decide | omega)) (by rfl) g_need_place k_need_place b_need_place .nil pass0 (pa_cons (pv 0) (pa_cons (pv 1) pa_nil))))
      (pss_cons (ps_expr (pe_call G_need_stands (hr.mono (by first | decide | omega)) (by rfl) g_need_stands k_need_stands b_need_stands .nil pass0 (pa_cons (pv 0) (pa_cons (pv 2) pa_nil))))
      (pss_one (ps_ret (pe_call G_all_answers (hr.mono (by first | decide | omega)) (by rfl) g_all_answers k_all_answers b_all_answers .nil pass0 (pa_cons (pv 1) (pa_cons (pv 2) pa_nil)))))))), ?_⟩), hg, Fn.kp, Fn.binds fun _ _ _ _ _ _ us hl => match us, hl with | [_, _, _], _ => rfl⟩
  case len =>
    rintro ds r ⟨n, t, xs, rfl, hn, ht, hx, rfl⟩; rfl
  rintro ds rs ⟨n, t, xs, rfl, hn, ht, hx, rfl⟩ F L σ H D hrt o
  try dsimp only [cxOf]
  refine q_drop0 (ev_need_length (by wtm_at "ev") (within_int hn)) (fun σ H o => ?_) o
  refine q_drop0 (ev_need_place (by wtm_at "ev") (by wtm_at "ev") (within_int ht)) (fun σ H o => ?_) o
  refine q_drop0 (ev_need_stands (by wtm_at "ev") (by wtm_at "ev") hx) (fun σ H o => ?_) o
  exact s_retNN0 (ev_all_answers (by wtm_at "ev") (by wtm_at "ev") (by have := hx.1; omega)) hrt o
/-! words, answers, places -/
def wordsL : List Str := [wCold, wSame, wWarm]
def isWord : PyData → Bool
  | .str w => decide (w ∈ wordsL)
  | _ => false
/-- the module's own tuple of words -/
def WordsAt (K : PySem.W.Frag) (a : Addr) : Prop := ∀ H : Hp, SqT K H a (wordsL.map V.str)
def wordsObj (o : Obj) : Bool := match o with
  | ⟨.type "tuple", _, .seq its _, _⟩ => match its.toList with
    | [.str a _, .str b _, .str c _] => decide (a = wCold) && decide (b = wSame) && decide (c = wWarm)
    | _ => false
  | _ => false
theorem wordsAt_of {K : PySem.W.Frag} {a : Addr} {o : Obj} (h : K.lookup a = some o) (q : wordsObj o = true) : WordsAt K a := fun H => by
  unfold wordsObj at q
  split at q
  · rename_i oc its n sl
    split at q
    · rename_i x tx y ty z tz e
      simp only [Bool.and_eq_true, decide_eq_true_eq] at q
      obtain ⟨⟨rfl, rfl⟩, rfl⟩ := q
      refine .inr ⟨_, its, n, h, rfl, rfl, ?_, ?_⟩
      · have : its.size = 3 := by rw [← Array.length_toList, e]; rfl
        rw [this]; exact line_of (by decide)
      · rw [e]; exact .cons ⟨_, rfl⟩ (.cons ⟨_, rfl⟩ (.cons ⟨_, rfl⟩ .nil))
    · cases q
  · cases q
theorem inV_words (w : Str) : inV (.str w) (wordsL.map V.str) = decide (w ∈ wordsL) := by
  unfold inV wordsL
  simp only [List.map_cons, List.map_nil, List.any_cons, List.any_nil, Bool.or_false, eqV]
  by_cases h1 : wCold = w <;> by_cases h2 : wSame = w <;> by_cases h3 : wWarm = w <;> simp [h1, h2, h3, eq_comm (a := w)] <;> simp_all [eq_comm]
theorem ev_inW {K : PySem.W.Frag} {ta : TE} {ρ : List Sl} {M M1 : Ms} {w : Str} {a : Addr} (qw : WordsAt K a) (ha : Ev K ta ρ M (.dat (.str w)) M1) : Ev K (tOp (rIn K false) ta (tC (.ref a))) ρ M (.dat (.bool (decide (w ∈ wordsL)))) M1 := ev_op ha ev_ref fun F L σ H x y o hx hy Q q => by
  have ey : y = .ref a := hy
  subst ey
  rw [str_of hx]
  refine ⟨a, _, rfl, .inr (qw H), rfl, by simp [List.all_map, flatV, wordsL], q _ H (Same.refl H) ?_⟩
  rw [if_neg Bool.false_ne_true, inV_words]
  exact .bl _
def wsOk (xs : List Int) (ws : List Str) : Prop := ws.length = xs.length - 1 ∧ ∀ w ∈ ws, w ∈ wordsL
theorem wordsL_ok : ∀ w ∈ wordsL, PyData.strOk w = true := by decide +kernel
theorem wordOf_memL (f n : Int) : wordOf f n ∈ wordsL := by
  unfold wordOf wordsL
  split
  · simp
  · split <;> simp
theorem answers_mem (t : Int) (xs : List Int) : ∀ w ∈ answers t xs, w ∈ wordsL := fun w hw => by
  obtain ⟨i, _, rfl⟩ := List.mem_map.mp hw
  exact wordOf_memL _ _
theorem answers_ok (t : Int) (xs : List Int) : ∀ w ∈ answers t xs, PyData.strOk w = true := fun w hw => wordsL_ok _ (answers_mem t xs w hw)
theorem answers_len (t : Int) (xs : List Int) : (answers t xs).length = xs.length - 1 := by simp [answers]
theorem answers_ws (t : Int) (xs : List Int) : wsOk xs (answers t xs) := ⟨answers_len t xs, answers_mem t xs⟩
def places (n : Int) (xs : List Int) (ws : List Str) : List Int := ((List.range n.toNat).filter fun (k : Nat) => decide (answers (1 + (k : Int)) xs = ws)).map fun (k : Nat) => 1 + (k : Int)
def R_is_answer (ds : List PyData) (r : PyData) : Prop := ∃ d, ds = [d] ∧ r = .bool (isWord d)
theorem ev_is_answer {K : PySem.W.Frag} {ta : TE} {ρ : List Sl} {M M1 : Ms} {E : XK} {d : PyData} (ha : Ev K ta ρ M (.dat d) M1) : Ev K (tCall (spP K R_is_answer) [] E (tCons ta tNil)) ρ M (.dat (.bool (isWord d))) M1 := ev_callD (ed_cons ha ed_nil) ⟨d, rfl, rfl⟩
abbrev s_is_answer : Stmt := topS 20
theorem sc_is_answer : FnScope ["thing"] ["thing"] (defScope s_is_answer) := ⟨rfl, rfl, rfl, by decide +kernel, rfl, by decide +kernel, by decide +kernel⟩
theorem ok_is_answer (T : Raw K mg "is_answer" "is_answer" s_is_answer) (B : Bl mg) {a_WORDS : Addr} (g_WORDS : mg "WORDS" = some (.ref a_WORDS)) (q_WORDS : WordsAt K a_WORDS)   : Has P w K mg base 1 "is_answer" ["thing"] (spP K R_is_answer) := by
  obtain ⟨f, fd, Fn, hg⟩ := T
  refine ⟨f, fd, okP Fn sc_is_answer ?len (fun cdv A outer s H E hr => ⟨_, (pss_one (ps_ret (pe_and (pe_callB (w_isi (K' := K) rfl) (by rfl) B.isinstance_ (by decide +kernel) (pa_cons (pv 0) (pa_cons (pe_bltn (by rfl) B.str_ (by decide +kernel) (show RelV (.ty "str") _ from rfl)) pa_nil))) (pe_one (pe_cmpR (w_in (K' := K) rfl) (pv 0) (pe_glob (by rfl) g_WORDS (show RelV (.ref a_WORDS) _ from rfl)) (by rfl)))))), ?_⟩), hg, Fn.kp, Fn.binds fun _ _ _ _ _ _ us hl => match us, hl with | [_], _ => rfl⟩
  case len =>
    rintro ds r ⟨d, rfl, rfl⟩; rfl
  rintro ds r ⟨d, rfl, rfl⟩ F L σ H D hrt hnx o
  try dsimp only [cxOf]
  refine s_retP0 ?_ hrt o
  cases d with
  | str w =>
    apply ev_isD
    · exact ev_andV2 (by wtm_at "ev") (ev_inW q_WORDS (by wtm_at "ev"))
    · simp [isD, tyD, isWord]
  | bool b => exact ev_isD (ev_andV (b := false) (by wtm_at "ev") fun e => by simp [isD, tyD] at e) (by simp [isD, tyD, isWord])
  | none => exact ev_isD (ev_andV (b := false) (by wtm_at "ev") fun e => by simp [isD, tyD] at e) (by simp [isD, tyD, isWord])
  | int x => exact ev_isD (ev_andV (b := false) (by wtm_at "ev") fun e => by simp [isD, tyD] at e) (by simp [isD, tyD, isWord])
  | list x => exact ev_isD (ev_andV (b := false) (by wtm_at "ev") fun e => by simp [isD, tyD] at e) (by simp [isD, tyD, isWord])
  | tuple x => exact ev_isD (ev_andV (b := false) (by wtm_at "ev") fun e => by simp [isD, tyD] at e) (by simp [isD, tyD, isWord])
  | dict x => exact ev_isD (ev_andV (b := false) (by wtm_at "ev") fun e => by simp [isD, tyD] at e) (by simp [isD, tyD, isWord])
local macro_rules | `(tactic| wtm_at "evx") => `(tactic| ((with_reducible apply ev_is_answer); (wtm_at "ev")))
def R_need_answers (ds : List PyData) (r : PyData) : Prop := ∃ xs ws, ds = [dI xs, dS ws] ∧ xs.length ≤ 1000 ∧ wsOk xs ws ∧ r = .none
theorem ev_need_answers {K : PySem.W.Frag} {ta tb : TE} {ρ : List Sl} {M M1 M2 : Ms} {E : XK} {xs : List Int} {ws : List Str} (ha : Ev K ta ρ M (.dat (dI xs)) M1) (hb : Ev K tb ρ M1 (.dat (dS ws)) M2) (hl : xs.length ≤ 1000) (h : wsOk xs ws) :
    Ev K (tCall (spP K R_need_answers) [] E (tCons ta (tCons tb tNil))) ρ M (.dat .none) M2 := ev_callD (ed_cons ha (ed_cons hb ed_nil)) ⟨xs, ws, rfl, hl, h, rfl⟩
abbrev s_need_answers : Stmt := topS 21
theorem sc_need_answers : FnScope ["stands", "answers", "word"] ["stands", "answers"] (defScope s_need_answers) := ⟨rfl, rfl, rfl, by decide +kernel, rfl, by decide +kernel, by decide +kernel⟩
theorem ok_need_answers (T : Raw K mg "need_answers" "need_answers" s_need_answers) (B : Bl mg)   (h_is_answer : Has P w K mg base 1 "is_answer" ["thing"] (spP K R_is_answer)) : Has P w K mg base 2 "need_answers" ["stands", "answers"] (spP K R_need_answers) := by
  obtain ⟨f, fd, Fn, hg⟩ := T
  obtain ⟨_, _, G_is_answer, g_is_answer, k_is_answer, b_is_answer⟩ := h_is_answer
  refine ⟨f, fd, okP Fn sc_need_answers ?len (fun cdv A outer s H E hr => ⟨_, (pss_cons (ps_if (PW.pt (pw_or (pt_not (pt_val (pe_callB (w_isi (K' := K) rfl) (by rfl) B.isinstance_ (by decide +kernel) (pa_cons (pv 1) (pa_cons (pe_bltn (by rfl) B.list_ (by decide +kernel) (show RelV (.ty "list") _ from rfl)) pa_nil))))) (pw_or1 (pt_cmpR op_ne (pe_callB (w_len (K' := K) rfl) (by rfl) B.len_ (by decide +kernel) (pa_cons (pv 1) pa_nil)) (pe_callB (c_max2 rfl) (by rfl) B.max_ (by decide +kernel) (pa_cons pe_int (pa_cons (pe_op op_sub (pe_callB (w_len (K' := K) rfl) (by rfl) B.len_ (by decide +kernel) (pa_cons (pv 0) pa_nil)) pe_int) pa_nil))) (nomark _))))) (pss_one ps_never) pss_nil)
      (pss_one (ps_if (pt_not (pt_val (pe_callB (w_all (K' := K) rfl rfl) (by rfl) B.all_ (by decide +kernel) (pa_cons (pe_lc (own := [("word", 2)]) (g := gName 2) rfl sc_need_answers.nd (wi_list (K' := K) rfl (pv 1)) (blkOk_by (own := [("word", 2)]) (N := ["stands", "answers", "word"]) (sc := defScope s_need_answers) (by decide +kernel)) (fun _ _ _ _ _ => (pg_name (i := 2) sc_need_answers.nd rfl (by first | exact .inl rfl | exact .inr rfl))) (fun _ _ _ _ _ => pts_nil) (fun _ _ _ _ _ => (pe_call G_is_answer (hr.mono (by first | decide | omega)) (by rfl) g_is_answer k_is_answer b_is_answer .nil pass0 (pa_cons (pv 2) pa_nil)))) pa_nil)))) (pss_one ps_never) pss_nil))), ?_⟩), hg, Fn.kp, Fn.binds fun _ _ _ _ _ _ us hl => match us, hl with | [_, _], _ => rfl⟩
  case len =>
    rintro ds r ⟨xs, ws, rfl, hl, ⟨hw, hm⟩, rfl⟩; rfl
  rintro ds r ⟨xs, ws, rfl, hl, ⟨hw, hm⟩, rfl⟩ F L σ H D hrt hnx o
  try dsimp only [cxOf]
  have hall : (ws.map fun w => isWord (.str w)).all id = true := by
    rw [List.all_eq_true]
    intro b hb
    obtain ⟨x, h1, rfl⟩ := List.mem_map.mp hb
    simp [isWord, hm x h1]
  refine q_ifF0 (et_orF (et_notF (et_B (by wtm_at "evd"; rfl))) ?_) (fun H o => ?_) o
  · apply et_is
    · wtm_at "et"
    · simp; omega
  refine s_ifF0 (et_notF (et_B (ev_isD (ev_allB (bs := ws.map fun w => isWord (.str w)) ?_) (by rw [hall])))) (fun H o => hnx _ _ o.fr rfl) o
  refine EvA.cons (EvN.ev (evn_is (evn_lcP (item := fun i => .str (ws.getD i Str.empty)) (fun i => .bool (isWord (.str (ws.getD i Str.empty)))) (ei_listS (by wtm_at "ev")) (by wtm_at "eg") (by simp) ?el (by omega)) ?eq)) EvA.nil
  case el =>
    intro i hi
    wtm_at "ev"
  case eq =>
    rw [range_map_getD ws Str.empty fun x => PyData.bool (isWord (.str x)), List.map_map]
    rfl
def R_places_for (ds : List PyData) (r : PyData) : Prop := ∃ n xs ws, ds = [.int n, dI xs, dS ws] ∧ (0 ≤ n ∧ n ≤ 1000) ∧ xs.length ≤ 1000 ∧ (∀ w ∈ ws, PyData.strOk w = true) ∧ r = dTI (places n xs ws)
theorem ev_places_for {K : PySem.W.Frag} {ta tb tc : TE} {ρ : List Sl} {M M1 M2 M3 : Ms} {E : XK} {n : Int} {xs : List Int} {ws : List Str} (ha : Ev K ta ρ M (.dat (.int n)) M1) (hb : Ev K tb ρ M1 (.dat (dI xs)) M2) (hc : Ev K tc ρ M2 (.dat (dS ws)) M3) (hn : 0 ≤ n ∧ n ≤ 1000) (hl : xs.length ≤ 1000) (hw : ∀ w ∈ ws, PyData.strOk w = true) :
    Ev K (tCall (spP K R_places_for) [] E (tCons ta (tCons tb (tCons tc tNil)))) ρ M (.dat (dTI (places n xs ws))) M3 := ev_callD (ed_cons ha (ed_cons hb (ed_cons hc ed_nil))) ⟨n, xs, ws, rfl, hn, hl, hw, rfl⟩
abbrev s_places_for : Stmt := topS 26
theorem sc_places_for : FnScope ["length", "stands", "answers", "thing"] ["length", "stands", "answers"] (defScope s_places_for) := ⟨rfl, rfl, rfl, by decide +kernel, rfl, by decide +kernel, by decide +kernel⟩
theorem ok_places_for (T : Raw K mg "places_for" "places_for" s_places_for) (B : Bl mg)   (h_all_answers : Has P w K mg base 3 "all_answers" ["thing", "stands"] (spN K R_all_answers)) : Has P w K mg base 4 "places_for" ["length", "stands", "answers"] (spP K R_places_for) := by
  obtain ⟨f, fd, Fn, hg⟩ := T
  obtain ⟨_, _, G_all_answers, g_all_answers, k_all_answers, b_all_answers⟩ := h_all_answers
  refine ⟨f, fd, okP Fn sc_places_for ?len (fun cdv A outer s H E hr => ⟨_, (pss_one (ps_ret (we_tupleOf (K' := K) rfl (by rfl) B.tuple_ (pe_lc (own := [("thing", 3)]) (g := gName 3) rfl sc_places_for.nd (pi_range2 (by rfl) B.range_ (pa_cons pe_int (pa_cons (pe_op op_add (pv 0) pe_int) pa_nil))) (blkOk_by (own := [("thing", 3)]) (N := ["length", "stands", "answers", "thing"]) (sc := defScope s_places_for) (by decide +kernel)) (fun _ _ _ _ _ => (pg_name (i := 3) sc_places_for.nd rfl (by first | exact .inl rfl | exact .inr rfl))) (fun _ _ _ _ _ => (pts_one (pt_cmpR (w_eqD (K' := K) rfl hr.units) (pe_call G_all_answers (hr.mono (by first | decide | omega)) (by rfl) g_all_answers k_all_answers b_all_answers .nil pass0 (pa_cons (pv 3) (pa_cons (pv 1) pa_nil))) (pv 2) (nomark _)))) (fun _ _ _ _ _ => (pv 3)))))), ?_⟩), hg, Fn.kp, Fn.binds fun _ _ _ _ _ _ us hl => match us, hl with | [_, _, _], _ => rfl⟩
  case len =>
    rintro ds r ⟨n, xs, ws, rfl, hn, hl, hw, rfl⟩; rfl
  rintro ds r ⟨n, xs, ws, rfl, hn, hl, hw, rfl⟩ F L σ H D hrt hnx o
  try dsimp only [cxOf]
  refine s_retP0 (ev_tupleL (EvN.ev (evn_is (evn_lcF (n := n.toNat) (item := fun k => .int (1 + (k : Nat))) (fun k => decide (answers (1 + (k : Nat)) xs = ws)) (fun k => .int (1 + (k : Nat))) ?ei (by wtm_at "eg") (by simp) (fun k hk => ?et) (fun k hk => ?el) (by omega)) ?eq))) hrt o
  case ei =>
    have h := ei_rng2 (K := K) (ρ := [.dat (.int n), .dat (dI xs), .dat (dS ws), .un]) (M := []) (M1 := []) (i := 1) (j := n + 1) (tr := tCons (tC (.int 1)) (tCons (tOp (rI0 fun i j => .int (i + j)) (tVar 0) (tC (.int 1))) tNil)) (by wtm_at "ea") (by omega)
    rw [show (n + 1 - 1).toNat = n.toNat by omega] at h
    exact h
  case et =>
    refine et_is (et_test (ev_eqD (EvN.ev (ev_all_answers (by wtm_at "ev") (by wtm_at "ev") hl)) (by wtm_at "ev") ((sh_dS (answers_ok _ _)).shaped (by decide)) ((sh_dS hw).shaped (by decide)))) ?_
    rw [eqv_dS]
  case el => wtm_at "ev"
  case eq => unfold given places; rw [List.map_map]; rfl
def R_can_lie (ds : List PyData) (r : PyData) : Prop := ∃ n xs ws, ds = [.int n, dI xs, dS ws] ∧ (1 ≤ n ∧ n ≤ 60) ∧ stOk n xs ∧ wsOk xs ws ∧ r = dTI (places n xs ws)
theorem ev_can_lie {K : PySem.W.Frag} {ta tb tc : TE} {ρ : List Sl} {M M1 M2 M3 : Ms} {E : XK} {n : Int} {xs : List Int} {ws : List Str} (ha : Ev K ta ρ M (.dat (.int n)) M1) (hb : Ev K tb ρ M1 (.dat (dI xs)) M2) (hc : Ev K tc ρ M2 (.dat (dS ws)) M3) (hn : 1 ≤ n ∧ n ≤ 60) (hl : stOk n xs) (hw : wsOk xs ws) :
    Ev K (tCall (spP K R_can_lie) [] E (tCons ta (tCons tb (tCons tc tNil)))) ρ M (.dat (dTI (places n xs ws))) M3 := ev_callD (ed_cons ha (ed_cons hb (ed_cons hc ed_nil))) ⟨n, xs, ws, rfl, hn, hl, hw, rfl⟩
abbrev s_can_lie : Stmt := topS 27
theorem sc_can_lie : FnScope ["length", "stands", "answers"] ["length", "stands", "answers"] (defScope s_can_lie) := ⟨rfl, rfl, rfl, by decide +kernel, rfl, by decide +kernel, by decide +kernel⟩
theorem ok_can_lie (T : Raw K mg "can_lie" "can_lie" s_can_lie) (B : Bl mg)   (h_need_length : Has P w K mg base 2 "need_length" ["length"] (spP K R_need_length)) (h_need_stands : Has P w K mg base 2 "need_stands" ["length", "stands"] (spP K R_need_stands)) (h_need_answers : Has P w K mg base 2 "need_answers" ["stands", "answers"] (spP K R_need_answers)) (h_places_for : Has P w K mg base 4 "places_for" ["length", "stands", "answers"] (spP K R_places_for)) : Has P w K mg base 5 "can_lie" ["length", "stands", "answers"] (spP K R_can_lie) := by
  obtain ⟨f, fd, Fn, hg⟩ := T
  obtain ⟨_, _, G_need_length, g_need_length, k_need_length, b_need_length⟩ := h_need_length
  obtain ⟨_, _, G_need_stands, g_need_stands, k_need_stands, b_need_stands⟩ := h_need_stands
  obtain ⟨_, _, G_need_answers, g_need_answers, k_need_answers, b_need_answers⟩ := h_need_answers
  obtain ⟨_, _, G_places_for, g_places_for, k_places_for, b_places_for⟩ := h_places_for
  refine ⟨f, fd, okP Fn sc_can_lie ?len (fun cdv A outer s H E hr => ⟨_, (pss_cons (ps_expr (pe_call G_need_length (hr.mono (by first | decide | omega)) (by rfl) g_need_length k_need_length b_need_length .nil pass0 (pa_cons (pv 0) pa_nil)))
      (pss_cons (ps_expr (pe_call G_need_stands (hr.mono (by first | decide | omega)) (by rfl) g_need_stands k_need_stands b_need_stands .nil pass0 (pa_cons (pv 0) (pa_cons (pv 1) pa_nil))))
      (pss_cons (ps_expr (pe_call G_need_answers (hr.mono (by first | decide | omega)) (by rfl) g_need_answers k_need_answers b_need_answers .nil pass0 (pa_cons (pv 1) (pa_cons (pv 2) pa_nil))))
      (pss_one (ps_ret (pe_call G_places_for (hr.mono (by first | decide | omega)) (by rfl) g_places_for k_places_for b_places_for .nil pass0 (pa_cons (pv 0) (pa_cons (pv 1) (pa_cons (pv 2) pa_nil))))))))), ?_⟩), hg, Fn.kp, Fn.binds fun _ _ _ _ _ _ us hl => match us, hl with | [_, _, _], _ => rfl⟩
  case len =>
    rintro ds r ⟨n, xs, ws, rfl, hn, hx, hw, rfl⟩; rfl
  rintro ds r ⟨n, xs, ws, rfl, hn, hx, hw, rfl⟩ F L σ H D hrt hnx o
  try dsimp only [cxOf]
  have hl : xs.length ≤ 1000 := by have := hx.1; omega
  refine q_drop0 (ev_need_length (by wtm_at "ev") (within_int hn)) (fun σ H o => ?_) o
  refine q_drop0 (ev_need_stands (by wtm_at "ev") (by wtm_at "ev") hx) (fun σ H o => ?_) o
  refine q_drop0 (ev_need_answers (by wtm_at "ev") (by wtm_at "ev") hl hw) (fun σ H o => ?_) o
  exact s_retP0 (ev_places_for (by wtm_at "ev") (by wtm_at "ev") (by wtm_at "ev") (by omega) hl (fun w h => wordsL_ok w (hw.2 w h))) hrt o
def cellAt (xs : List Int) (k : Int) : Int := if k < xs.length then xs.getD k.toNat 0 else 0
def R_law_cell_at (ds : List PyData) (r : PyData) : Prop := ∃ (xs : List Int) (k : Int), ds = [dScr xs, .int k] ∧ 0 ≤ k ∧ r = .int (cellAt xs k)
theorem ev_law_cell_at {K : PySem.W.Frag} {ta tb : TE} {ρ : List Sl} {M M1 M2 : Ms} {E : XK} {xs : List Int} {k : Int} (ha : Ev K ta ρ M (.dat (dScr xs)) M1) (hb : Ev K tb ρ M1 (.dat (.int k)) M2) (h : 0 ≤ k) :
    Ev K (tCall (spP K R_law_cell_at) [] E (tCons ta (tCons tb tNil))) ρ M (.dat (.int (cellAt xs k))) M2 := ev_callD (ed_cons ha (ed_cons hb ed_nil)) ⟨xs, k, rfl, h, rfl⟩
abbrev s_law_cell_at : Stmt := topS 52
theorem sc_law_cell_at : FnScope ["script", "k"] ["script", "k"] (defScope s_law_cell_at) := ⟨rfl, rfl, rfl, by decide +kernel, rfl, by decide +kernel, by decide +kernel⟩
theorem ok_law_cell_at (T : Raw K mg "_law_cell_at" "_law_cell_at" s_law_cell_at) (B : Bl mg)    : Has P w K mg base 1 "_law_cell_at" ["script", "k"] (spP K R_law_cell_at) := by
  obtain ⟨f, fd, Fn, hg⟩ := T
  refine ⟨f, fd, okP Fn sc_law_cell_at ?len (fun cdv A outer s H E hr => ⟨_, (pss_cons (ps_if (pt_cmpR op_lt (pv 1) (pe_callB (w_len (K' := K) rfl) (by rfl) B.len_ (by decide +kernel) (pa_cons (pv 0) pa_nil)) (nomark _)) (pss_one (ps_ret (pe_ix (w_ixL (K' := K) rfl) (pv 0) (pv 1) (fun _ _ => rfl)))) pss_nil)
      (pss_one (ps_ret pe_int))), ?_⟩), hg, Fn.kp, Fn.binds fun _ _ _ _ _ _ us hl => match us, hl with | [_, _], _ => rfl⟩
  case len =>
    rintro ds r ⟨xs, k, rfl, h0, rfl⟩; rfl
  rintro ds r ⟨xs, k, rfl, h0, rfl⟩ F L σ H D hrt hnx o
  try dsimp only [cxOf]
  refine q_ifR0 (by wtm_at "et") (fun e H o => s_retP0 ?_ hrt o) (fun e H o => s_retP0 ?_ hrt o) o
  · have e1 := of_decide_eq_true e
    apply ev_isD
    · exact ev_ixScr (by wtm_at "ev") (by wtm_at "ev") h0 e1
    · unfold cellAt; rw [if_pos e1]
  · have e1 := of_decide_eq_false e
    apply ev_isD
    · wtm_at "ev"
    · unfold cellAt; rw [if_neg e1]
local macro_rules | `(tactic| wtm_at "evx") => `(tactic| ((with_reducible apply ev_law_cell_at); (wtm_at "ev"); (wtm_at "ev"); (wtm_at "side")))
abbrev bigP : Int := 2305843009213693951
def drawSt (cell size : Int) : Nat → List Int × Int × Int
  | 0 => ([], cell * (if decide (10 ^ 18 ≤ cell) = true then 1 else 0), cell % bigP)
  | k + 1 =>
    let s := drawSt cell size k
    let st := (s.2.2 * s.2.2 + 48271 * s.2.2 + k + 1) % bigP
    if 2 < k ∧ 0 < s.2.1 then (s.1 ++ [s.2.1 % size], s.2.1 / size, st)
    else if 2 < k then (s.1 ++ [st / 4096 % size], s.2.1, st)
    else (s.1, s.2.1, st)
def drawsOf (cell many size : Int) : List Int := (drawSt cell size (many + 3).toNat).1
theorem drawSt_ok {cell size : Int} (hs : 0 < size) : ∀ k : Nat, (drawSt cell size k).1.length = k - 3 ∧ 0 ≤ (drawSt cell size k).2.1 ∧ 0 ≤ (drawSt cell size k).2.2 ∧ (drawSt cell size k).2.2 < bigP
  | 0 => by
    refine ⟨rfl, ?_, Int.emod_nonneg _ (by decide), Int.emod_lt_of_pos _ (by decide)⟩
    show 0 ≤ cell * _
    split
    · rename_i h
      have := of_decide_eq_true h
      omega
    · omega
  | k + 1 => by
    obtain ⟨h1, h2, h3, h4⟩ := drawSt_ok (cell := cell) (size := size) hs k
    have p : (0 : Int) < bigP := by decide
    unfold drawSt
    dsimp only
    split
    · refine ⟨by rw [List.length_append, h1]; simp; omega, Int.ediv_nonneg h2 (by omega), Int.emod_nonneg _ (by decide), Int.emod_lt_of_pos _ p⟩
    · split
      · refine ⟨by rw [List.length_append, h1]; simp; omega, h2, Int.emod_nonneg _ (by decide), Int.emod_lt_of_pos _ p⟩
      · refine ⟨by rw [h1]; omega, h2, Int.emod_nonneg _ (by decide), Int.emod_lt_of_pos _ p⟩
theorem drawsOf_len {cell many size : Int} (hs : 0 < size) : (drawsOf cell many size).length = many.toNat := by
  unfold drawsOf
  rw [(drawSt_ok hs _).1]; omega
def R_law_draws (ds : List PyData) (rs : List PyData) : Prop := ∃ (cell many size : Int), ds = [.int cell, .int many, .int size] ∧ (0 ≤ many ∧ many ≤ 1000) ∧ (0 < size ∧ size < 1073741824) ∧ rs = (drawsOf cell many size).map PyData.int
theorem ev_law_draws {K : PySem.W.Frag} {ta tb tc : TE} {ρ : List Sl} {M M1 M2 M3 : Ms} {E : XK} {cell many size : Int} (ha : Ev K ta ρ M (.dat (.int cell)) M1) (hb : Ev K tb ρ M1 (.dat (.int many)) M2) (hc : Ev K tc ρ M2 (.dat (.int size)) M3) (h1 : 0 ≤ many ∧ many ≤ 1000) (h2 : 0 < size ∧ size < 1073741824) :
    EvN K (tCall (spN K R_law_draws) [] E (tCons ta (tCons tb (tCons tc tNil)))) ρ M ((drawsOf cell many size).map PyData.int) M3 := evn_callD (ed_cons ha (ed_cons hb (ed_cons hc ed_nil))) ⟨cell, many, size, rfl, h1, h2, rfl⟩
abbrev s_law_draws : Stmt := topS 53
theorem sc_law_draws : FnScope ["cell", "many", "size", "found", "rest", "stirred", "k"] ["cell", "many", "size"] (defScope s_law_draws) := ⟨rfl, rfl, rfl, by decide +kernel, rfl, by decide +kernel, by decide +kernel⟩
theorem ok_law_draws (T : Raw K mg "_law_draws" "_law_draws" s_law_draws) (B : Bl mg)    : Has P w K mg base 1 "_law_draws" ["cell", "many", "size"] (spN K R_law_draws) := by
  obtain ⟨f, fd, Fn, hg⟩ := T
  refine ⟨f, fd, okN Fn sc_law_draws ?len (fun cdv A outer s H E hr => ⟨_, (pss_cons (ps_set (i := 3) sc_law_draws.nd rfl (by first | exact .inl rfl | exact .inr rfl) (pe_lst pa_nil))
      (pss_cons (ps_set (i := 4) sc_law_draws.nd rfl (by first | exact .inl rfl | exact .inr rfl) (pe_op op_mul (pv 0) (pe_callTy c_int1 (by rfl) B.int_ (by decide +kernel) (pa_cons (pe_cmpR op_ge (pv 0) (pe_op op_pow pe_int pe_int) (nomark _)) pa_nil))))
      (pss_cons (ps_set (i := 5) sc_law_draws.nd rfl (by first | exact .inl rfl | exact .inr rfl) (pe_op op_mod (pv 0) pe_int))
      (pss_cons (ps_for PassesOwn.never rfl (pi_range1 (by rfl) B.range_ (pa_cons (pe_op op_add (pv 1) pe_int) pa_nil)) (pg_name (i := 6) sc_law_draws.nd rfl (by first | exact .inl rfl | exact .inr rfl))
      (pss_cons (ps_set (i := 5) sc_law_draws.nd rfl (by first | exact .inl rfl | exact .inr rfl) (pe_op op_mod (pe_op op_add (pe_op op_add (pe_op op_add (pe_op op_mul (pv 5) (pv 5)) (pe_op op_mul pe_int (pv 5))) (pv 6)) pe_int) pe_int))
      (pss_one (ps_if (PW.pt (pw_and (pt_cmpR op_gt (pv 6) pe_int (nomark _)) (pw_and1 (pt_cmpR op_gt (pv 4) pe_int (nomark _))))) (pss_cons (ps_expr (pe_bm PySem.F.plainAttrs_list PySem.F.slot_list_append PySem.F.type_list_append mt_append (pv 3) (pa_cons (pe_op op_mod (pv 4) (pv 2)) pa_nil)))
      (pss_one (ps_set (i := 4) sc_law_draws.nd rfl (by first | exact .inl rfl | exact .inr rfl) (pe_op op_fdiv (pv 4) (pv 2))))) (pss_one (ps_if (pt_cmpR op_gt (pv 6) pe_int (nomark _)) (pss_one (ps_expr (pe_bm PySem.F.plainAttrs_list PySem.F.slot_list_append PySem.F.type_list_append mt_append (pv 3) (pa_cons (pe_op op_mod (pe_op op_fdiv (pv 5) pe_int) (pv 2)) pa_nil)))) pss_nil))))))
      (pss_one (ps_ret (pv 3))))))), ?_⟩), hg, Fn.kp, Fn.binds fun _ _ _ _ _ _ us hl => match us, hl with | [_, _, _], _ => rfl⟩
  case len =>
    rintro ds r ⟨cell, many, size, rfl, hm, hs, rfl⟩; rfl
  rintro ds rs ⟨cell, many, size, rfl, hm, hs, rfl⟩ F L σ H D hrt o
  try dsimp only [cxOf]
  refine q_asgN0 (by wtm_at "en") (fun p σ H o => ?_) o
  refine q_asg0 (ev_mul (i := cell) (j := if decide (10 ^ 18 ≤ cell) = true then 1 else 0) (by wtm_at "ev") (ev_intB (EvA.cons (ev_ge (by wtm_at "ev") (ev_pow ev_int ev_int ⟨by decide, by decide, by decide⟩)) EvA.nil)) ?_) (fun σ H o => ?_) o
  · right; split <;> decide
  refine q_asg0 (ev_mod (by wtm_at "ev") (by wtm_at "ev") (by decide)) (fun σ H o => ?_) o
  refine q_for0 (fun i ρ M => ∃ s6, ρ = [.dat (.int cell), .dat (.int many), .dat (.int size), .loc (.ref p), .dat (.int (drawSt cell size i).2.1), .dat (.int (drawSt cell size i).2.2), s6] ∧ M = [(p, .lst ((drawSt cell size i).1.map PyData.int))])
    (ei_rng1 (by wtm_at "ea") (by omega) (by omega)) (by wtm_at "eg") ⟨.un, rfl, rfl⟩ (fun F' sF i hi ρ M hJ σ H o => ?_) (fun ρ M hJ σ H o => ?_) o
  · obtain ⟨s6, rfl, rfl⟩ := hJ
    obtain ⟨g1, g2, g3, g4⟩ := drawSt_ok (cell := cell) hs.1 i
    have hp : bigP < 2 ^ 64 := by decide
    refine q_asg0 (ev_mod (ev_add (ev_add (ev_add (ev_mul (by wtm_at "ev") (by wtm_at "ev") (.inl ⟨by omega, by omega⟩)) (ev_mul (by wtm_at "ev") (by wtm_at "ev") (.inl ⟨by decide, by decide⟩))) (by wtm_at "ev")) (by wtm_at "ev")) (by wtm_at "ev") (by decide)) (fun σ H o => ?_) o
    have hlen : ((drawSt cell size i).1.map PyData.int).length < 1000000 := by rw [List.length_map, g1]; omega
    refine s_if0 (by wtm_at "et") (fun e H o => ?_) (fun e H o => ?_) o
    · rw [Bool.and_eq_true, decide_eq_true_eq, decide_eq_true_eq] at e
      refine q_app (j := 0) (by wtm_at "ev") (ev_mod (by wtm_at "ev") (by wtm_at "ev") hs.1) rfl rfl hlen (fun σ H o => ?_) o
      refine s_asg0 (ev_div (by wtm_at "ev") (by wtm_at "ev") ⟨hs.1, hs.2⟩) (fun σ H o => ?_) o
      refine ⟨_, _, ⟨.dat (.int (i : Nat)), rfl, rfl⟩, ?_⟩
      have e2 : drawSt cell size (i + 1) = ((drawSt cell size i).1 ++ [(drawSt cell size i).2.1 % size], (drawSt cell size i).2.1 / size, ((drawSt cell size i).2.2 * (drawSt cell size i).2.2 + 48271 * (drawSt cell size i).2.2 + i + 1) % bigP) := by
        conv => lhs; unfold drawSt
        dsimp only
        rw [if_pos ⟨by omega, e.2⟩]
      rw [e2, List.map_append]
      exact o
    · refine s_if0 (by wtm_at "et") (fun e' H o => ?_) (fun e' H o => ?_) o
      · rw [decide_eq_true_eq] at e'
        refine s_app (j := 0) (by wtm_at "ev") (ev_mod (ev_div (by wtm_at "ev") (by wtm_at "ev") ⟨by decide, by decide⟩) (by wtm_at "ev") hs.1) rfl rfl hlen (fun σ H o => ?_) o
        refine ⟨_, _, ⟨.dat (.int (i : Nat)), rfl, rfl⟩, ?_⟩
        have e2 : drawSt cell size (i + 1) = ((drawSt cell size i).1 ++ [((drawSt cell size i).2.2 * (drawSt cell size i).2.2 + 48271 * (drawSt cell size i).2.2 + i + 1) % bigP / 4096 % size], (drawSt cell size i).2.1, ((drawSt cell size i).2.2 * (drawSt cell size i).2.2 + 48271 * (drawSt cell size i).2.2 + i + 1) % bigP) := by
          conv => lhs; unfold drawSt
          dsimp only
          rw [if_neg (fun z => by
            rw [Bool.and_eq_false_iff, decide_eq_false_iff_not, decide_eq_false_iff_not] at e
            rcases e with e | e
            · exact e e'
            · exact e z.2), if_pos (by omega)]
        rw [e2, List.map_append]
        exact o
      · rw [decide_eq_false_iff_not] at e'
        refine ⟨_, _, ⟨.dat (.int (i : Nat)), rfl, rfl⟩, ?_⟩
        have e2 : drawSt cell size (i + 1) = ((drawSt cell size i).1, (drawSt cell size i).2.1, ((drawSt cell size i).2.2 * (drawSt cell size i).2.2 + 48271 * (drawSt cell size i).2.2 + i + 1) % bigP) := by
          conv => lhs; unfold drawSt
          dsimp only
          rw [if_neg (fun z => by omega), if_neg (by omega)]
        rw [e2]
        exact o
  · obtain ⟨s6, rfl, rfl⟩ := hJ
    exact s_retMN0 0 (by wtm_at "ev") rfl hrt o
local macro_rules | `(tactic| wtm_at "evx") => `(tactic| ((with_reducible apply ev_law_draws); (wtm_at "ev"); (wtm_at "ev"); (wtm_at "ev"); (wtm_at "side"); (wtm_at "side")))
def bagOf (xs : List Int) (k : Int) : List PyData := [dI (drawsOf (cellAt xs k) 400 1000), .int 0]
def R_law_bag (ds : List PyData) (rs : List PyData) : Prop := ∃ (xs : List Int) (k : Int), ds = [dScr xs, .int k] ∧ 0 ≤ k ∧ rs = bagOf xs k
theorem ev_law_bag {K : PySem.W.Frag} {ta tb : TE} {ρ : List Sl} {M M1 M2 : Ms} {E : XK} {xs : List Int} {k : Int} (ha : Ev K ta ρ M (.dat (dScr xs)) M1) (hb : Ev K tb ρ M1 (.dat (.int k)) M2) (h : 0 ≤ k) :
    EvN K (tCall (spN K R_law_bag) [] E (tCons ta (tCons tb tNil))) ρ M (bagOf xs k) M2 := evn_callD (ed_cons ha (ed_cons hb ed_nil)) ⟨xs, k, rfl, h, rfl⟩
abbrev s_law_bag : Stmt := topS 54
theorem sc_law_bag : FnScope ["script", "k"] ["script", "k"] (defScope s_law_bag) := ⟨rfl, rfl, rfl, by decide +kernel, rfl, by decide +kernel, by decide +kernel⟩
theorem ok_law_bag (T : Raw K mg "_law_bag" "_law_bag" s_law_bag) (B : Bl mg)   (h_law_draws : Has P w K mg base 1 "_law_draws" ["cell", "many", "size"] (spN K R_law_draws)) (h_law_cell_at : Has P w K mg base 1 "_law_cell_at" ["script", "k"] (spP K R_law_cell_at)) : Has P w K mg base 2 "_law_bag" ["script", "k"] (spN K R_law_bag) := by
  obtain ⟨f, fd, Fn, hg⟩ := T
  obtain ⟨_, _, G_law_draws, g_law_draws, k_law_draws, b_law_draws⟩ := h_law_draws
  obtain ⟨_, _, G_law_cell_at, g_law_cell_at, k_law_cell_at, b_law_cell_at⟩ := h_law_cell_at
  refine ⟨f, fd, okN Fn sc_law_bag ?len (fun cdv A outer s H E hr => ⟨_, (pss_one (ps_ret (pe_lst (pa_cons (pe_call G_law_draws (hr.mono (by first | decide | omega)) (by rfl) g_law_draws k_law_draws b_law_draws .nil pass0 (pa_cons (pe_call G_law_cell_at (hr.mono (by first | decide | omega)) (by rfl) g_law_cell_at k_law_cell_at b_law_cell_at .nil pass0 (pa_cons (pv 0) (pa_cons (pv 1) pa_nil))) (pa_cons pe_int (pa_cons pe_int pa_nil)))) (pa_cons pe_int pa_nil))))), ?_⟩), hg, Fn.kp, Fn.binds fun _ _ _ _ _ _ us hl => match us, hl with | [_, _], _ => rfl⟩
  case len =>
    rintro ds r ⟨xs, k, rfl, h0, rfl⟩; rfl
  rintro ds rs ⟨xs, k, rfl, h0, rfl⟩ F L σ H D hrt o
  try dsimp only [cxOf]
  exact s_retNN0 (evn_lstD (ed_cons (by wtm_at "ev") (ed_cons ev_int ed_nil)) (by simp)) hrt o
def nBags (xs : List Int) (lim : Int) : Nat := (max 1 (min lim xs.length)).toNat
def R_law_bags (ds : List PyData) (n : Nat) (bd : Nat → List PyData) : Prop := ∃ (xs : List Int) (lim : Int), ds = [dScr xs, .int lim] ∧ (0 ≤ lim ∧ lim ≤ 1000) ∧ n = nBags xs lim ∧ bd = fun j => bagOf xs (j : Nat)
theorem evb_law_bags {K : PySem.W.Frag} {ta tb : TE} {ρ : List Sl} {E : XK} {xs : List Int} {lim : Int} (ha : Ev K ta ρ [] (.dat (dScr xs)) []) (hb : Ev K tb ρ [] (.dat (.int lim)) []) (h : 0 ≤ lim ∧ lim ≤ 1000) :
    EvB K (tCall (spB K R_law_bags) [] E (tCons ta (tCons tb tNil))) ρ (nBags xs lim) (fun j => bagOf xs (j : Nat)) := evb_call (ed_cons ha (ed_cons hb ed_nil)) ⟨xs, lim, rfl, h, rfl, rfl⟩
/-- a bag as it stands behind some draws -/
abbrev bg (dr : List Int) (pos : Int) : MO := .lst [dI dr, .int pos]
theorem bagOf_eq (xs : List Int) (k : Int) : ∃ dr : List Int, 0 < dr.length ∧ bagOf xs k = [dI dr, .int 0] := ⟨drawsOf (cellAt xs k) 400 1000, by rw [drawsOf_len (by decide)]; decide, rfl⟩
abbrev s_law_bags : Stmt := topS 55
theorem sc_law_bags : FnScope ["script", "limit", "k"] ["script", "limit"] (defScope s_law_bags) := ⟨rfl, rfl, rfl, by decide +kernel, rfl, by decide +kernel, by decide +kernel⟩
theorem ok_law_bags (T : Raw K mg "_law_bags" "_law_bags" s_law_bags) (B : Bl mg)   (h_law_bag : Has P w K mg base 2 "_law_bag" ["script", "k"] (spN K R_law_bag)) : Has P w K mg base 3 "_law_bags" ["script", "limit"] (spB K R_law_bags) := by
  obtain ⟨f, fd, Fn, hg⟩ := T
  obtain ⟨_, _, G_law_bag, g_law_bag, k_law_bag, b_law_bag⟩ := h_law_bag
  refine ⟨f, fd, okB Fn sc_law_bags ?len (fun cdv A outer s H E hr => ⟨_, (pss_one (ps_ret (pe_lc (own := [("k", 2)]) (g := gName 2) rfl sc_law_bags.nd (pi_range1 (by rfl) B.range_ (pa_cons (pe_callB (c_max2 rfl) (by rfl) B.max_ (by decide +kernel) (pa_cons pe_int (pa_cons (pe_callB (c_min2 rfl) (by rfl) B.min_ (by decide +kernel) (pa_cons (pv 1) (pa_cons (pe_callB (w_len (K' := K) rfl) (by rfl) B.len_ (by decide +kernel) (pa_cons (pv 0) pa_nil)) pa_nil))) pa_nil))) pa_nil)) (blkOk_by (own := [("k", 2)]) (N := ["script", "limit", "k"]) (sc := defScope s_law_bags) (by decide +kernel)) (fun _ _ _ _ _ => (pg_name (i := 2) sc_law_bags.nd rfl (by first | exact .inl rfl | exact .inr rfl))) (fun _ _ _ _ _ => pts_nil) (fun _ _ _ _ _ => (pe_call G_law_bag (hr.mono (by first | decide | omega)) (by rfl) g_law_bag k_law_bag b_law_bag .nil pass0 (pa_cons (pv 0) (pa_cons (pv 2) pa_nil))))))), ?_⟩), hg, Fn.kp, Fn.binds fun _ _ _ _ _ _ us hl => match us, hl with | [_, _], _ => rfl⟩
  case len =>
    rintro ds n bd ⟨xs, lim, rfl, hl, rfl, rfl⟩; rfl
  rintro ds n bd ⟨xs, lim, rfl, hl, rfl, rfl⟩ F L σ H D hrt o
  try dsimp only [cxOf]
  refine evb_lc (item := fun i => .int (i : Nat)) (j := 2) (n := nBags xs lim) (bd := fun j => bagOf xs (j : Nat)) ?hi (fun i hi => eg_name) (fun i hi => ?he) ?hl F L σ H o _ (fun a ps H1 s1 hb _ => hrt a ps H1 s1 hb)
  case hi =>
    exact ei_rng1 (j := max 1 (min lim (xs.length : Nat))) (by wtm_at "ea") (by omega) (by omega)
  case he => exact ev_law_bag (by wtm_at "ev") (by wtm_at "ev") (by omega)
  case hl => unfold nBags; omega
def tk (dr : List Int) (pos many : Int) : Int := dr.getD ((pos + 1) % dr.length).toNat 0 % many
theorem tk_lo {dr : List Int} {pos many : Int} (h : 0 < many) : 0 ≤ tk dr pos many := Int.emod_nonneg _ (by omega)
theorem tk_hi {dr : List Int} {pos many : Int} (h : 0 < many) : tk dr pos many < many := Int.emod_lt_of_pos _ h
def R_law_take (y : MO) (ds : List PyData) (r : PyData) (y' : MO) : Prop := ∃ (dr : List Int) (pos many : Int), y = bg dr pos ∧ ds = [.int many] ∧ 0 < dr.length ∧ 0 ≤ pos ∧ 0 < many ∧ r = .int (tk dr pos many) ∧ y' = bg dr (pos + 1)
theorem ev_take {K : PySem.W.Frag} {ta tb : TE} {ρ : List Sl} {M M1 M2 : Ms} {E : XK} {p : Addr} {dr : List Int} {pos many : Int} (j : Nat) (ha : Ev K ta ρ M (.loc (.ref p)) M1) (hb : Ev K tb ρ M1 (.dat (.int many)) M2) (hj : M2[j]? = some (p, bg dr pos)) (h : 0 < many) (hd : 0 < dr.length) (h0 : 0 ≤ pos) :
    Ev K (tCall (spM K R_law_take) [] E (tCons ta (tCons tb tNil))) ρ M (.dat (.int (tk dr pos many))) (M2.set j (p, bg dr (pos + 1))) := ev_callMD j ha (ed_cons hb ed_nil) hj ⟨dr, pos, many, rfl, rfl, hd, h0, h, rfl, rfl⟩
abbrev s_law_take : Stmt := topS 56
theorem sc_law_take : FnScope ["bag", "many"] ["bag", "many"] (defScope s_law_take) := ⟨rfl, rfl, rfl, by decide +kernel, rfl, by decide +kernel, by decide +kernel⟩
theorem ok_law_take (T : Raw K mg "_law_take" "_law_take" s_law_take) (B : Bl mg)    : Has P w K mg base 1 "_law_take" ["bag", "many"] (spM K R_law_take) := by
  obtain ⟨f, fd, Fn, hg⟩ := T
  refine ⟨f, fd, okM Fn sc_law_take ?len (fun cdv A outer s H E hr => ⟨_, (pss_cons (ps_asg (pe_op op_add (pe_ix (w_ixL (K' := K) rfl) (pv 0) pe_int (fun _ _ => rfl)) pe_int) (pg_sub (pv 0) pe_int set_list))
      (pss_one (ps_ret (pe_op op_mod (pe_ix (w_ixL (K' := K) rfl) (pe_ix (w_ixL (K' := K) rfl) (pv 0) pe_int (fun _ _ => rfl)) (pe_op op_mod (pe_ix (w_ixL (K' := K) rfl) (pv 0) pe_int (fun _ _ => rfl)) (pe_callB (w_len (K' := K) rfl) (by rfl) B.len_ (by decide +kernel) (pa_cons (pe_ix (w_ixL (K' := K) rfl) (pv 0) pe_int (fun _ _ => rfl)) pa_nil))) (fun _ _ => rfl)) (pv 1))))), ?_⟩), hg, Fn.kp, Fn.binds fun _ _ _ _ _ _ us hl => match us, hl with | [_, _], _ => rfl⟩
  case len =>
    rintro y ds r y' ⟨dr, pos, many, rfl, rfl, hd, h0, hm, rfl, rfl⟩; rfl
  rintro y ds r y' ⟨dr, pos, many, rfl, rfl, hd, h0, hm, rfl, rfl⟩ F L p σ H D hrt hp o
  try dsimp only [cxOf]
  have hmem : ∀ pos : Int, (p, bg dr pos) ∈ [(p, bg dr pos)] := fun _ => List.mem_singleton.mpr rfl
  have hl : (0 : Int) < dr.length := by omega
  refine q_setL (j := 0) (n := 1) (ev_add (ev_ixM (by wtm_at "ev") (by wtm_at "ev") (hmem pos) rfl) ev_int) (by wtm_at "ev") (by wtm_at "ev") rfl (by rfl) (fun σ H o => ?_) o
  replace o : Ok K F L σ H (st0 ["bag", "many"] (Sl.loc (V.ref p) :: List.map Sl.dat [PyData.int many])) [(p, bg dr (pos + 1))] := o
  have e1 : (0 : Int) ≤ (pos + 1) % dr.length := Int.emod_nonneg _ (by omega)
  have e2 : (pos + 1) % dr.length < dr.length := Int.emod_lt_of_pos _ hl
  refine s_ret (ev_mod (i := dr.getD ((pos + 1) % dr.length).toNat 0) (j := many) (ev_ixI (ns := dr) (i := (pos + 1) % dr.length) (ev_ixM (by wtm_at "ev") ev_int (hmem (pos + 1)) rfl) (ev_mod (ev_ixM (by wtm_at "ev") ev_int (hmem (pos + 1)) rfl) (ev_isD (ev_lenL (ds := dr.map PyData.int) (EvA.cons (ev_ixM (by wtm_at "ev") ev_int (hmem (pos + 1)) rfl) EvA.nil)) (by rw [List.length_map])) hl) e1 e2) (by wtm_at "ev") hm) (fun v H1 o1 x1 => ?_) o
  refine hrt v H1 o1.fr ?_ (Dp.mono (hid_sub fun _ z => List.mem_append_left _ z) x1)
  exact (o1.ob (p, bg dr (pos + 1)) (List.mem_singleton.mpr rfl)).mono (hid_sub fun _ z => List.mem_append_left _ z) rfl
local macro_rules | `(tactic| wtm_at "evx") => `(tactic| ((with_reducible apply ev_take 0); (wtm_at "ev"); (wtm_at "ev"); (rfl); (wtm_at "side"); (wtm_at "side"); (wtm_at "side")))
def ssSt (dr : List Int) (len pos : Int) : Nat → List Int × Int
  | 0 => ([], pos)
  | k + 1 =>
    let s := ssSt dr len pos k
    if s.1 = [] then (s.1 ++ [1 + tk dr s.2 len], s.2 + 1)
    else if tk dr (s.2 + 1) 3 = 0 then (s.1 ++ [max 1 (min len (s.1.getD (s.1.length - 1) 0 + tk dr (s.2 + 1 + 1) 5 - 2))], s.2 + 1 + 1 + 1)
    else (s.1 ++ [1 + tk dr s.2 len], s.2 + 1 + 1)
theorem ssSt_ok {dr : List Int} {len pos : Int} (hl : 1 ≤ len) (hp : 0 ≤ pos) : ∀ k : Nat, (ssSt dr len pos k).1.length = k ∧ 0 ≤ (ssSt dr len pos k).2 ∧ ∀ x ∈ (ssSt dr len pos k).1, 1 ≤ x ∧ x ≤ len
  | 0 => ⟨rfl, hp, fun x hx => by simp [ssSt] at hx⟩
  | k + 1 => by
    obtain ⟨h1, h2, h3⟩ := ssSt_ok (dr := dr) hl hp k
    have t1 := tk_lo (dr := dr) (pos := (ssSt dr len pos k).2) (many := len) (by omega)
    have t2 := tk_hi (dr := dr) (pos := (ssSt dr len pos k).2) (many := len) (by omega)
    unfold ssSt
    dsimp only
    split
    · refine ⟨by simp [h1], by omega, fun x hx => ?_⟩
      rcases List.mem_append.mp hx with z | z
      · exact h3 x z
      · have e := List.mem_singleton.mp z
        omega
    · split
      · refine ⟨by simp [h1], by omega, fun x hx => ?_⟩
        rcases List.mem_append.mp hx with z | z
        · exact h3 x z
        · have e := List.mem_singleton.mp z
          omega
      · refine ⟨by simp [h1], by omega, fun x hx => ?_⟩
        rcases List.mem_append.mp hx with z | z
        · exact h3 x z
        · have e := List.mem_singleton.mp z
          omega
def ssN (dr : List Int) (pos most : Int) : Nat := (tk dr pos (most + 1)).toNat
def R_law_some_stands (y : MO) (ds : List PyData) (rs : List PyData) (y' : MO) : Prop := ∃ (dr : List Int) (pos len most : Int), y = bg dr pos ∧ ds = [.int len, .int most] ∧ 0 < dr.length ∧ 0 ≤ pos ∧ 1 ≤ len ∧ (0 ≤ most ∧ most ≤ 1000) ∧
  rs = (ssSt dr len (pos + 1) (ssN dr pos most)).1.map PyData.int ∧ y' = bg dr (ssSt dr len (pos + 1) (ssN dr pos most)).2
theorem ev_some_stands {K : PySem.W.Frag} {ta tb tc : TE} {ρ : List Sl} {M M1 M2 M3 : Ms} {E : XK} {p : Addr} {dr : List Int} {pos len most : Int} (j : Nat) (ha : Ev K ta ρ M (.loc (.ref p)) M1) (hb : Ev K tb ρ M1 (.dat (.int len)) M2) (hc : Ev K tc ρ M2 (.dat (.int most)) M3) (hj : M3[j]? = some (p, bg dr pos)) (hd : 0 < dr.length) (h0 : 0 ≤ pos) (h1 : 1 ≤ len) (h2 : 0 ≤ most ∧ most ≤ 1000) :
    EvN K (tCall (spMN K R_law_some_stands) [] E (tCons ta (tCons tb (tCons tc tNil)))) ρ M ((ssSt dr len (pos + 1) (ssN dr pos most)).1.map PyData.int) (M3.set j (p, bg dr (ssSt dr len (pos + 1) (ssN dr pos most)).2)) := evn_callMD j ha (ed_cons hb (ed_cons hc ed_nil)) hj ⟨dr, pos, len, most, rfl, rfl, hd, h0, h1, h2, rfl, rfl⟩
abbrev s_law_some_stands : Stmt := topS 57
theorem sc_law_some_stands : FnScope ["bag", "length", "most", "found", "turn", "place"] ["bag", "length", "most"] (defScope s_law_some_stands) := ⟨rfl, rfl, rfl, by decide +kernel, rfl, by decide +kernel, by decide +kernel⟩
theorem ok_law_some_stands (T : Raw K mg "_law_some_stands" "_law_some_stands" s_law_some_stands) (B : Bl mg)   (h_law_take : Has P w K mg base 1 "_law_take" ["bag", "many"] (spM K R_law_take)) : Has P w K mg base 2 "_law_some_stands" ["bag", "length", "most"] (spMN K R_law_some_stands) := by
  obtain ⟨f, fd, Fn, hg⟩ := T
  obtain ⟨_, _, G_law_take, g_law_take, k_law_take, b_law_take⟩ := h_law_take
  refine ⟨f, fd, okMN Fn sc_law_some_stands ?len (fun cdv A outer s H E hr => ⟨_, (pss_cons (ps_set (i := 3) sc_law_some_stands.nd rfl (by first | exact .inl rfl | exact .inr rfl) (pe_lst pa_nil))
      (pss_cons (ps_for PassesOwn.never rfl (pi_range1 (by rfl) B.range_ (pa_cons (pe_call G_law_take (hr.mono (by first | decide | omega)) (by rfl) g_law_take k_law_take b_law_take .nil pass0 (pa_cons (pv 0) (pa_cons (pe_op op_add (pv 2) pe_int) pa_nil))) pa_nil)) (pg_name (i := 4) sc_law_some_stands.nd rfl (by first | exact .inl rfl | exact .inr rfl))
      (pss_cons (ps_set (i := 5) sc_law_some_stands.nd rfl (by first | exact .inl rfl | exact .inr rfl) (pe_op op_add pe_int (pe_call G_law_take (hr.mono (by first | decide | omega)) (by rfl) g_law_take k_law_take b_law_take .nil pass0 (pa_cons (pv 0) (pa_cons (pv 1) pa_nil)))))
      (pss_cons (ps_if (PW.pt (pw_and (pt_cmpR (w_neD (K' := K) rfl hr.units) (pv 3) (pe_lst pa_nil) (nomark _)) (pw_and1 (pt_cmpR op_eq (pe_call G_law_take (hr.mono (by first | decide | omega)) (by rfl) g_law_take k_law_take b_law_take .nil pass0 (pa_cons (pv 0) (pa_cons pe_int pa_nil))) pe_int (nomark _))))) (pss_one (ps_set (i := 5) sc_law_some_stands.nd rfl (by first | exact .inl rfl | exact .inr rfl) (pe_callB (c_max2 rfl) (by rfl) B.max_ (by decide +kernel) (pa_cons pe_int (pa_cons (pe_callB (c_min2 rfl) (by rfl) B.min_ (by decide +kernel) (pa_cons (pv 1) (pa_cons (pe_op op_sub (pe_op op_add (pe_ix (w_ixL (K' := K) rfl) (pv 3) (pe_un un_neg pe_int) (fun _ _ => rfl)) (pe_call G_law_take (hr.mono (by first | decide | omega)) (by rfl) g_law_take k_law_take b_law_take .nil pass0 (pa_cons (pv 0) (pa_cons pe_int pa_nil)))) pe_int) pa_nil))) pa_nil))))) pss_nil)
      (pss_one (ps_expr (pe_bm PySem.F.plainAttrs_list PySem.F.slot_list_append PySem.F.type_list_append mt_append (pv 3) (pa_cons (pv 5) pa_nil)))))))
      (pss_one (ps_ret (pv 3))))), ?_⟩), hg, Fn.kp, Fn.binds fun _ _ _ _ _ _ us hl => match us, hl with | [_, _, _], _ => rfl⟩
  case len =>
    rintro y ds r y' ⟨dr, pos, len, most, rfl, rfl, hd, h0, hl, hm, rfl, rfl⟩; rfl
  rintro y ds rs y' ⟨dr, pos, len, most, rfl, rfl, hd, h0, hl, hm, rfl, rfl⟩ F L p σ H D hrt hp o
  try dsimp only [cxOf]
  refine q_asgN0 (by wtm_at "en") (fun q σ H o => ?_) o
  have hN : ssN dr pos most ≤ 1000 := by
    unfold ssN
    have := tk_hi (dr := dr) (pos := pos) (many := most + 1) (by omega)
    omega
  have tn1 := tk_lo (dr := dr) (pos := pos) (many := most + 1) (by omega)
  have tn2 := tk_hi (dr := dr) (pos := pos) (many := most + 1) (by omega)
  refine q_for (M1 := [(p, bg dr (pos + 1)), (q, .lst [])]) (n := ssN dr pos most) (item := fun i => .int (i : Nat)) (fun i ρ M => ∃ s4 s5, ρ = [.loc (.ref p), .dat (.int len), .dat (.int most), .loc (.ref q), s4, s5] ∧ M = [(p, bg dr (ssSt dr len (pos + 1) i).2), (q, .lst ((ssSt dr len (pos + 1) i).1.map PyData.int))])
    (ei_rng1 (j := tk dr pos (most + 1)) (EvA.cons (ev_take 0 (by wtm_at "ev") (by wtm_at "ev") rfl (by omega) hd h0) EvA.nil) (by omega) (by omega)) (by wtm_at "eg") ⟨.un, .un, rfl, rfl⟩ (fun F' sF i hi ρ M hJ σ H o => ?_) (fun ρ M hJ σ H o => ?_) o
  · obtain ⟨s4, s5, rfl, rfl⟩ := hJ
    obtain ⟨g1, g2, g3⟩ := ssSt_ok (dr := dr) (len := len) (pos := pos + 1) hl (by omega) i
    generalize hf : (ssSt dr len (pos + 1) i).1 = f at *
    generalize hq : (ssSt dr len (pos + 1) i).2 = c at *
    have hlen : (f.map PyData.int).length < 1000000 := by rw [List.length_map, g1]; omega
    have hsh : SeqAt.shaped (.list (f.map PyData.int)) = true := sh_dI.shaped (by decide)
    have hsn : SeqAt.shaped (.list []) = true := by decide
    refine q_asg (ev_add ev_int (ev_take (pos := c) 0 (by wtm_at "ev") (by wtm_at "ev") rfl (by omega) hd g2)) (fun σ H o => ?_) o
    replace o : Ok K F' L σ H [.loc (.ref p), .dat (.int len), .dat (.int most), .loc (.ref q), .dat (.int (i : Nat)), .dat (.int (1 + tk dr c len))] [(p, bg dr (c + 1)), (q, .lst (f.map PyData.int))] := o
    have hmem : ∀ c' : Int, (q, MO.lst (f.map PyData.int)) ∈ [(p, bg dr c'), (q, .lst (f.map PyData.int))] := fun _ => List.mem_cons_of_mem _ (List.mem_singleton.mpr rfl)
    by_cases hfe : f = []
    · refine q_ifF (M1 := [(p, bg dr (c + 1)), (q, .lst (f.map PyData.int))]) (et_andF (et_is (et_test (ev_neDl (ds := f.map PyData.int) (by wtm_at "ev") (EvN.ev (by wtm_at "en")) (hmem _) hsh hsn)) ?_)) (fun H o => ?_) o
      · rw [show (PyData.list []) = PyData.list (([] : List Int).map PyData.int) from rfl, eqv_dI, decide_eq_true hfe]; rfl
      refine s_app (j := 1) (by wtm_at "ev") (by wtm_at "ev") rfl rfl hlen (fun σ H o => ?_) o
      refine ⟨_, _, ⟨.dat (.int (i : Nat)), .dat (.int (1 + tk dr c len)), rfl, rfl⟩, ?_⟩
      have e2 : ssSt dr len (pos + 1) (i + 1) = (f ++ [1 + tk dr c len], c + 1) := by
        conv => lhs; unfold ssSt
        dsimp only
        rw [hf, hq, if_pos hfe]
      rw [e2, List.map_append]
      exact o
    · have hne : EvT K (tTest (tOp (rNeD K) (tVar 3) (tLst tNil))) [.loc (.ref p), .dat (.int len), .dat (.int most), .loc (.ref q), .dat (.int (i : Nat)), .dat (.int (1 + tk dr c len))] [(p, bg dr (c + 1)), (q, .lst (f.map PyData.int))] true [(p, bg dr (c + 1)), (q, .lst (f.map PyData.int))] := by
        refine et_is (et_test (ev_neDl (ds := f.map PyData.int) (by wtm_at "ev") (EvN.ev (by wtm_at "en")) (hmem _) hsh hsn)) ?_
        rw [show (PyData.list []) = PyData.list (([] : List Int).map PyData.int) from rfl, eqv_dI, decide_eq_false hfe]; rfl
      have e2 : ssSt dr len (pos + 1) (i + 1) = if tk dr (c + 1) 3 = 0 then (f ++ [max 1 (min len (f.getD (f.length - 1) 0 + tk dr (c + 1 + 1) 5 - 2))], c + 1 + 1 + 1) else (f ++ [1 + tk dr c len], c + 1 + 1) := by
        conv => lhs; unfold ssSt
        dsimp only
        rw [hf, hq, if_neg hfe]
      have hpos : 0 < f.length := List.length_pos_iff.mpr hfe
      have hlast : atI (f.map PyData.int) (-1) = some (.int (f.getD (f.length - 1) 0)) := by
        rw [atI_neg1 (by rw [List.length_map]; exact hpos), List.length_map, List.getElem?_map, List.getD_eq_getElem?_getD, List.getElem?_eq_getElem (by omega)]; rfl
      refine q_if1 (b := decide (tk dr (c + 1) 3 = 0)) (M1 := [(p, bg dr (c + 1 + 1)), (q, .lst (f.map PyData.int))]) (et_andT hne (et_test (ev_eqI (ev_take (pos := c + 1) 0 (by wtm_at "ev") ev_int rfl (by decide) hd (by omega)) ev_int))) (fun e H o => ?_) (fun e H o => ?_) o
      · rw [if_pos (of_decide_eq_true e)] at e2
        refine q_asg (M1 := [(p, bg dr (c + 1 + 1 + 1)), (q, .lst (f.map PyData.int))]) (ev_max2 (EvA.cons ev_int (EvA.cons (ev_min2 (EvA.cons (by wtm_at "ev") (EvA.cons (ev_sub (ev_add (ev_ixM (by wtm_at "ev") (ev_neg ev_int) (hmem _) hlast) (ev_take (pos := c + 1 + 1) 0 (by wtm_at "ev") ev_int rfl (by decide) hd (by omega))) ev_int) EvA.nil))) EvA.nil))) (fun σ H o => ?_) o
        refine s_app (j := 1) (by wtm_at "ev") (by wtm_at "ev") rfl rfl hlen (fun σ H o => ?_) o
        exact ⟨_, _, ⟨.dat (.int (i : Nat)), _, rfl, rfl⟩, by rw [e2, List.map_append]; exact o⟩
      · rw [if_neg (of_decide_eq_false e)] at e2
        refine s_app (j := 1) (by wtm_at "ev") (by wtm_at "ev") rfl rfl hlen (fun σ H o => ?_) o
        exact ⟨_, _, ⟨.dat (.int (i : Nat)), _, rfl, rfl⟩, by rw [e2, List.map_append]; exact o⟩
  · obtain ⟨s4, s5, rfl, rfl⟩ := hJ
    refine s_retMN 1 (by wtm_at "ev") rfl (fun us H1 s1 hf1 hM nd h1 h2 => ?_) o
    refine hrt q us H1 s1 hf1 (fun e => ?_) ?_ h1 (DpAll.mono (hid_sub fun a ha => ?_) h2)
    · rw [e] at nd; simp [ad] at nd
    · refine (hM (p, bg dr (ssSt dr len (pos + 1) (ssN dr pos most)).2) List.mem_cons_self).mono (hid_sub fun a ha => ?_) rfl
      rcases List.mem_cons.mp ha with z | z
      · rw [z]; simp [ad]
      · exact List.mem_append_left _ z
    · rcases List.mem_cons.mp ha with z | z
      · rw [z]; simp [ad]
      · exact List.mem_append_left _ z
def R_law_word (ds : List PyData) (r : PyData) : Prop := ∃ f n : Int, ds = [.int f, .int n] ∧ r = .str (wordOf f n)
theorem ev_law_word {K : PySem.W.Frag} {ta tb : TE} {ρ : List Sl} {M M1 M2 : Ms} {E : XK} {f n : Int} (ha : Ev K ta ρ M (.dat (.int f)) M1) (hb : Ev K tb ρ M1 (.dat (.int n)) M2) :
    Ev K (tCall (spP K R_law_word) [] E (tCons ta (tCons tb tNil))) ρ M (.dat (.str (wordOf f n))) M2 := ev_callD (ed_cons ha (ed_cons hb ed_nil)) ⟨f, n, rfl, rfl⟩
local macro_rules | `(tactic| wtm_at "evx") => `(tactic| ((with_reducible apply ev_law_word) <;> wtm_at "ev"))
/-! the law's draws, as numbers of which the bounds alone are told -/
section
variable {K : PySem.W.Frag} {ρ : List Sl} {p : Addr} {dr : List Int} {pos pos' : Int} {Mr : Ms} {b : Nat} {E E' : XK} {ta tb tc : TE}
theorem x_take {many : Int} (hρ : ρ[b]? = some (.loc (.ref p))) (hb : Ev K tb ρ ((p, bg dr pos) :: Mr) (.dat (.int many)) ((p, bg dr pos') :: Mr)) (hd : 0 < dr.length) (h0 : 0 ≤ pos') (hm : 0 < many) :
    ∃ t c, (0 ≤ t ∧ t < many) ∧ 0 ≤ c ∧ Ev K (tCall (spM K R_law_take) [] E (tCons (tVar b) (tCons tb tNil))) ρ ((p, bg dr pos) :: Mr) (.dat (.int t)) ((p, bg dr c) :: Mr) :=
  ⟨tk dr pos' many, pos' + 1, ⟨tk_lo hm, tk_hi hm⟩, by omega, ev_take (M1 := (p, bg dr pos) :: Mr) (M2 := (p, bg dr pos') :: Mr) 0 (ev_varL hρ) hb rfl hm hd h0⟩
/-- 1 + take(bag, [x, y][take(bag, 2)]) -/
theorem x_len2 {x y : Int} (hρ : ρ[b]? = some (.loc (.ref p))) (hd : 0 < dr.length) (h0 : 0 ≤ pos) (hx : 0 < x) (hy : 0 < y) :
    ∃ n c, (1 ≤ n ∧ n ≤ max x y) ∧ 0 ≤ c ∧ Ev K (tOp (rI0 fun i j => .int (i + j)) (tC (.int 1)) (tCall (spM K R_law_take) [] E (tCons (tVar b) (tCons (tOp (rIxL K) (tLst (tCons (tC (.int x)) (tCons (tC (.int y)) tNil))) (tCall (spM K R_law_take) [] E' (tCons (tVar b) (tCons (tC (.int 2)) tNil)))) tNil)))) ρ ((p, bg dr pos) :: Mr) (.dat (.int n)) ((p, bg dr c) :: Mr) := by
  obtain ⟨t, c, ht, hc, e1⟩ := x_take (K := K) (ρ := ρ) (E := E') (tb := tC (.int 2)) (Mr := Mr) hρ ev_int hd h0 (by decide : (0 : Int) < 2)
  have hv : [x, y].getD t.toNat 0 = x ∨ [x, y].getD t.toNat 0 = y := by
    have : t = 0 ∨ t = 1 := by omega
    rcases this with h | h <;> subst h
    · exact .inl rfl
    · exact .inr rfl
  have hv0 : 0 < [x, y].getD t.toNat 0 := by rcases hv with h | h <;> rw [h] <;> assumption
  have hv1 : [x, y].getD t.toNat 0 ≤ max x y := by rcases hv with h | h <;> rw [h] <;> omega
  have e2 : Ev K (tOp (rIxL K) (tLst (tCons (tC (.int x)) (tCons (tC (.int y)) tNil))) (tCall (spM K R_law_take) [] E' (tCons (tVar b) (tCons (tC (.int 2)) tNil)))) ρ ((p, bg dr pos) :: Mr) (.dat (.int ([x, y].getD t.toNat 0))) ((p, bg dr c) :: Mr) :=
    ev_ixI (ns := [x, y]) (EvN.ev (evn_lstD (ed_cons ev_int (ed_cons ev_int ed_nil)) (by simp))) e1 ht.1 (by exact ht.2)
  obtain ⟨u, c2, hu, hc2, e3⟩ := x_take (K := K) (ρ := ρ) (E := E) (Mr := Mr) hρ e2 hd hc hv0
  exact ⟨1 + u, c2, by omega, hc2, ev_add ev_int e3⟩
/-- 1 + take(bag, n) -/
theorem x_one {n : Int} (hρ : ρ[b]? = some (.loc (.ref p))) (hb : Ev K tb ρ ((p, bg dr pos) :: Mr) (.dat (.int n)) ((p, bg dr pos') :: Mr)) (hd : 0 < dr.length) (h0 : 0 ≤ pos') (hn : 0 < n) :
    ∃ t c, (1 ≤ t ∧ t ≤ n) ∧ 0 ≤ c ∧ Ev K (tOp (rI0 fun i j => .int (i + j)) (tC (.int 1)) (tCall (spM K R_law_take) [] E (tCons (tVar b) (tCons tb tNil)))) ρ ((p, bg dr pos) :: Mr) (.dat (.int t)) ((p, bg dr c) :: Mr) := by
  obtain ⟨t, c, ht, hc, e1⟩ := x_take (K := K) (ρ := ρ) (E := E) (Mr := Mr) hρ hb hd h0 hn
  exact ⟨1 + t, c, by omega, hc, ev_add ev_int e1⟩
theorem x_stands {n most : Int} (hρ : ρ[b]? = some (.loc (.ref p))) (hb : Ev K tb ρ ((p, bg dr pos) :: Mr) (.dat (.int n)) ((p, bg dr pos) :: Mr)) (hc : Ev K tc ρ ((p, bg dr pos) :: Mr) (.dat (.int most)) ((p, bg dr pos') :: Mr)) (hd : 0 < dr.length) (h0 : 0 ≤ pos') (hn : 1 ≤ n) (hm : 0 ≤ most ∧ most ≤ 1000) :
    ∃ (st : List Int) (c : Int), ((st.length : Int) ≤ most ∧ ∀ x ∈ st, 1 ≤ x ∧ x ≤ n) ∧ 0 ≤ c ∧ EvN K (tCall (spMN K R_law_some_stands) [] E (tCons (tVar b) (tCons tb (tCons tc tNil)))) ρ ((p, bg dr pos) :: Mr) (st.map PyData.int) ((p, bg dr c) :: Mr) := by
  obtain ⟨g1, g2, g3⟩ := ssSt_ok (dr := dr) (len := n) (pos := pos' + 1) hn (by omega) (ssN dr pos' most)
  refine ⟨_, _, ⟨?_, g3⟩, g2, ev_some_stands (M1 := (p, bg dr pos) :: Mr) (M2 := (p, bg dr pos) :: Mr) (M3 := (p, bg dr pos') :: Mr) 0 (ev_varL hρ) hb hc rfl hd h0 hn hm⟩
  rw [g1]
  unfold ssN
  have := tk_lo (dr := dr) (pos := pos') (many := most + 1) (by omega)
  have := tk_hi (dr := dr) (pos := pos') (many := most + 1) (by omega)
  omega
end

def rowsOn (n : Int) (xs : List Int) : List (List Str) := (List.range n.toNat).map fun (k : Nat) => answers (1 + (k : Int)) xs
theorem rowsOn_len (n : Int) (xs : List Int) : (rowsOn n xs).length = n.toNat := by simp [rowsOn]
theorem rowsOn_get {n : Int} {xs : List Int} {i : Nat} (h : i < n.toNat) : (rowsOn n xs).getD i [] = answers (1 + (i : Int)) xs := by
  unfold rowsOn
  rw [List.getD_eq_getElem?_getD, List.getElem?_map, List.getElem?_range h]; rfl
theorem rowsOn_ok (n : Int) (xs : List Int) : ∀ r ∈ rowsOn n xs, ∀ w ∈ r, PyData.strOk w = true := fun r hr => by
  obtain ⟨k, _, rfl⟩ := List.mem_map.mp hr
  exact answers_ok _ _
def R_rows_of (ds : List PyData) (rs : List PyData) : Prop := ∃ n xs, ds = [.int n, dI xs] ∧ (1 ≤ n ∧ n ≤ 60) ∧ xs.length ≤ 1000 ∧ rs = (rowsOn n xs).map fun r => .tuple (r.map PyData.str)
theorem ev_rows_of {K : PySem.W.Frag} {ta tb : TE} {ρ : List Sl} {M M1 M2 : Ms} {E : XK} {n : Int} {xs : List Int} (ha : Ev K ta ρ M (.dat (.int n)) M1) (hb : Ev K tb ρ M1 (.dat (dI xs)) M2) (hn : 1 ≤ n ∧ n ≤ 60) (hl : xs.length ≤ 1000) :
    EvN K (tCall (spN K R_rows_of) [] E (tCons ta (tCons tb tNil))) ρ M ((rowsOn n xs).map fun r => .tuple (r.map PyData.str)) M2 := evn_callD (ed_cons ha (ed_cons hb ed_nil)) ⟨n, xs, rfl, hn, hl, rfl⟩
abbrev s_rows_of : Stmt := topS 31
theorem sc_rows_of : FnScope ["length", "stands", "thing"] ["length", "stands"] (defScope s_rows_of) := ⟨rfl, rfl, rfl, by decide +kernel, rfl, by decide +kernel, by decide +kernel⟩
theorem ok_rows_of (T : Raw K mg "rows_of" "rows_of" s_rows_of) (B : Bl mg)   (h_all_answers : Has P w K mg base 3 "all_answers" ["thing", "stands"] (spN K R_all_answers)) : Has P w K mg base 4 "rows_of" ["length", "stands"] (spN K R_rows_of) := by
  obtain ⟨f, fd, Fn, hg⟩ := T
  obtain ⟨_, _, G_all_answers, g_all_answers, k_all_answers, b_all_answers⟩ := h_all_answers
  refine ⟨f, fd, okN Fn sc_rows_of ?len (fun cdv A outer s H E hr => ⟨_, (pss_one (ps_ret (pe_lc (own := [("thing", 2)]) (g := gName 2) rfl sc_rows_of.nd (pi_range2 (by rfl) B.range_ (pa_cons pe_int (pa_cons (pe_op op_add (pv 0) pe_int) pa_nil))) (blkOk_by (own := [("thing", 2)]) (N := ["length", "stands", "thing"]) (sc := defScope s_rows_of) (by decide +kernel)) (fun _ _ _ _ _ => (pg_name (i := 2) sc_rows_of.nd rfl (by first | exact .inl rfl | exact .inr rfl))) (fun _ _ _ _ _ => pts_nil) (fun _ _ _ _ _ => (we_tupleOf (K' := K) rfl (by rfl) B.tuple_ (pe_call G_all_answers (hr.mono (by first | decide | omega)) (by rfl) g_all_answers k_all_answers b_all_answers .nil pass0 (pa_cons (pv 2) (pa_cons (pv 1) pa_nil)))))))), ?_⟩), hg, Fn.kp, Fn.binds fun _ _ _ _ _ _ us hl => match us, hl with | [_, _], _ => rfl⟩
  case len =>
    rintro ds r ⟨n, xs, rfl, hn, hl, rfl⟩; rfl
  rintro ds rs ⟨n, xs, rfl, hn, hl, rfl⟩ F L σ H D hrt o
  try dsimp only [cxOf]
  refine s_retNN0 (evn_is (evn_lcP (n := (n + 1 - 1).toNat) (fun k => .tuple ((answers (1 + (k : Int)) xs).map PyData.str)) (ei_rng2 (EvA.cons ev_int (EvA.cons (ev_add (ev_varD rfl) ev_int) EvA.nil)) (by omega)) (by wtm_at "eg") (by simp) (fun k hk => ev_tupleL (EvN.ev (ev_all_answers (ev_varD rfl) (ev_varD rfl) hl))) (by omega)) ?_) hrt o
  rw [show (n + 1 - 1).toNat = n.toNat by omega]
  unfold rowsOn
  rw [List.map_map]; rfl
def R_how_many (ds : List PyData) (r : PyData) : Prop := ∃ n xs, ds = [.int n, dI xs] ∧ (1 ≤ n ∧ n ≤ 60) ∧ stOk n xs ∧ r = .int ((dd (rowsOn n xs)).length : Nat)
theorem ev_how_many {K : PySem.W.Frag} {ta tb : TE} {ρ : List Sl} {M M1 M2 : Ms} {E : XK} {n : Int} {xs : List Int} (ha : Ev K ta ρ M (.dat (.int n)) M1) (hb : Ev K tb ρ M1 (.dat (dI xs)) M2) (hn : 1 ≤ n ∧ n ≤ 60) (hl : stOk n xs) :
    Ev K (tCall (spP K R_how_many) [] E (tCons ta (tCons tb tNil))) ρ M (.dat (.int ((dd (rowsOn n xs)).length : Nat))) M2 := ev_callD (ed_cons ha (ed_cons hb ed_nil)) ⟨n, xs, rfl, hn, hl, rfl⟩
abbrev s_how_many : Stmt := topS 32
theorem sc_how_many : FnScope ["length", "stands"] ["length", "stands"] (defScope s_how_many) := ⟨rfl, rfl, rfl, by decide +kernel, rfl, by decide +kernel, by decide +kernel⟩
theorem ok_how_many (T : Raw K mg "how_many" "how_many" s_how_many) (B : Bl mg)   (h_need_length : Has P w K mg base 2 "need_length" ["length"] (spP K R_need_length)) (h_need_stands : Has P w K mg base 2 "need_stands" ["length", "stands"] (spP K R_need_stands)) (h_rows_of : Has P w K mg base 4 "rows_of" ["length", "stands"] (spN K R_rows_of)) : Has P w K mg base 5 "how_many" ["length", "stands"] (spP K R_how_many) := by
  obtain ⟨f, fd, Fn, hg⟩ := T
  obtain ⟨_, _, G_need_length, g_need_length, k_need_length, b_need_length⟩ := h_need_length
  obtain ⟨_, _, G_need_stands, g_need_stands, k_need_stands, b_need_stands⟩ := h_need_stands
  obtain ⟨_, _, G_rows_of, g_rows_of, k_rows_of, b_rows_of⟩ := h_rows_of
  refine ⟨f, fd, okP Fn sc_how_many ?len (fun cdv A outer s H E hr => ⟨_, (pss_cons (ps_expr (pe_call G_need_length (hr.mono (by first | decide | omega)) (by rfl) g_need_length k_need_length b_need_length .nil pass0 (pa_cons (pv 0) pa_nil)))
      (pss_cons (ps_expr (pe_call G_need_stands (hr.mono (by first | decide | omega)) (by rfl) g_need_stands k_need_stands b_need_stands .nil pass0 (pa_cons (pv 0) (pa_cons (pv 1) pa_nil))))
      (pss_one (ps_ret (we_lenSetT (K' := K) rfl rfl hr.units (by rfl) B.len_ (by rfl) B.set_ (pe_call G_rows_of (hr.mono (by first | decide | omega)) (by rfl) g_rows_of k_rows_of b_rows_of .nil pass0 (pa_cons (pv 0) (pa_cons (pv 1) pa_nil)))))))), ?_⟩), hg, Fn.kp, Fn.binds fun _ _ _ _ _ _ us hl => match us, hl with | [_, _], _ => rfl⟩
  case len =>
    rintro ds r ⟨n, xs, rfl, hn, hx, rfl⟩; rfl
  rintro ds r ⟨n, xs, rfl, hn, hx, rfl⟩ F L σ H D hrt hnx o
  try dsimp only [cxOf]
  have hl : xs.length ≤ 1000 := by have := hx.1; omega
  refine q_drop0 (ev_need_length (by wtm_at "ev") (within_int hn)) (fun σ H o => ?_) o
  refine q_drop0 (ev_need_stands (by wtm_at "ev") (by wtm_at "ev") hx) (fun σ H o => ?_) o
  exact s_retP0 (ev_lenSetT (rows := rowsOn n xs) (D := dd (rowsOn n xs)) (EvN.ev (ev_rows_of (ev_varD rfl) (ev_varD rfl) hn hl)) (by rw [rowsOn_len]; omega) (nd_dd _) fun k => mem_dd) hrt o
def same2 (xs : List Int) (a : Int) : Bool := decide (answers a xs = answers (a + 1) xs)
/-- the first pair alike among the last i things -/
def alikeI (n : Int) (xs : List Int) : Nat → PyData
  | 0 => .none
  | i + 1 => if (decide (n - (i : Int) < n) && same2 xs (n - (i : Int))) = true then .tuple [.int (n - (i : Int)), .int (n - (i : Int) + 1)] else alikeI n xs i
def alikeD (n : Int) (xs : List Int) : PyData := alikeI n xs n.toNat
theorem alikeI_keep {n : Int} {xs : List Int} {m : Nat} : ∀ d : Nat, (∀ i : Nat, m ≤ i → i < m + d → ¬ (n - (i : Int) < n ∧ same2 xs (n - (i : Int)) = true)) → alikeI n xs (m + d) = alikeI n xs m
  | 0, _ => rfl
  | d + 1, h => by
    rw [← Nat.add_assoc, alikeI, if_neg fun z => h (m + d) (by omega) (by omega) (by rw [Bool.and_eq_true, decide_eq_true_eq] at z; exact z)]
    exact alikeI_keep d fun i h1 h2 => h i h1 (by omega)
theorem alike_some {n : Int} {xs : List Int} {k : Nat} (hk : (k : Int) + 1 < n) (h0 : ∀ j : Nat, j < k → same2 xs (1 + (j : Int)) = false) (h1 : same2 xs (1 + (k : Int)) = true) : alikeD n xs = .tuple [.int (1 + (k : Int)), .int (1 + (k : Int) + 1)] := by
  unfold alikeD
  have e : n.toNat = (n.toNat - k) + k := by omega
  rw [e, alikeI_keep k fun i h2 h3 z => ?_]
  · rw [show n.toNat - k = (n.toNat - k - 1) + 1 by omega, alikeI]
    have e2 : n - ((n.toNat - k - 1 : Nat) : Int) = 1 + (k : Int) := by omega
    rw [e2, if_pos (by rw [h1, decide_eq_true (by omega)]; rfl)]
  · have := h0 (n.toNat - 1 - i) (by omega)
    rw [show 1 + ((n.toNat - 1 - i : Nat) : Int) = n - (i : Int) by omega, z.2] at this
    cases this
theorem alike_none {n : Int} {xs : List Int} (h0 : ∀ j : Nat, (j : Int) + 1 < n → same2 xs (1 + (j : Int)) = false) : alikeD n xs = .none := by
  unfold alikeD
  have e : n.toNat = 0 + n.toNat := by omega
  rw [e, alikeI_keep n.toNat fun i h2 h3 z => ?_]
  · rfl
  · have := h0 (n.toNat - 1 - i) (by omega)
    rw [show 1 + ((n.toNat - 1 - i : Nat) : Int) = n - (i : Int) by omega, z.2] at this
    cases this
theorem alikeI_cases (n : Int) (xs : List Int) : ∀ i, alikeI n xs i = .none ∨ ∃ a b : Int, alikeI n xs i = .tuple [.int a, .int b]
  | 0 => .inl rfl
  | i + 1 => by
    unfold alikeI
    split
    · exact .inr ⟨_, _, rfl⟩
    · exact alikeI_cases n xs i
theorem sh_pair {a b : Int} : Sh 1 (.tuple [.int a, .int b]) := sh_dTI (xs := [a, b])
theorem sh_alikeI (n : Int) (xs : List Int) (i : Nat) : Sh 1 (alikeI n xs i) := by
  rcases alikeI_cases n xs i with e | ⟨a, b, e⟩
  · rw [e]; exact ⟨rfl, by simp [PyData.depth]⟩
  · rw [e]; exact sh_pair
def R_alike (ds : List PyData) (r : PyData) : Prop := ∃ n xs, ds = [.int n, dI xs] ∧ (1 ≤ n ∧ n ≤ 60) ∧ stOk n xs ∧ r = alikeD n xs
theorem ev_alike {K : PySem.W.Frag} {ta tb : TE} {ρ : List Sl} {M M1 M2 : Ms} {E : XK} {n : Int} {xs : List Int} (ha : Ev K ta ρ M (.dat (.int n)) M1) (hb : Ev K tb ρ M1 (.dat (dI xs)) M2) (hn : 1 ≤ n ∧ n ≤ 60) (hl : stOk n xs) :
    Ev K (tCall (spP K R_alike) [] E (tCons ta (tCons tb tNil))) ρ M (.dat (alikeD n xs)) M2 := ev_callD (ed_cons ha (ed_cons hb ed_nil)) ⟨n, xs, rfl, hn, hl, rfl⟩
abbrev s_alike : Stmt := topS 33
theorem sc_alike : FnScope ["length", "stands", "rows", "place"] ["length", "stands"] (defScope s_alike) := ⟨rfl, rfl, rfl, by decide +kernel, rfl, by decide +kernel, by decide +kernel⟩
theorem ok_alike (T : Raw K mg "alike" "alike" s_alike) (B : Bl mg)   (h_need_length : Has P w K mg base 2 "need_length" ["length"] (spP K R_need_length)) (h_need_stands : Has P w K mg base 2 "need_stands" ["length", "stands"] (spP K R_need_stands)) (h_rows_of : Has P w K mg base 4 "rows_of" ["length", "stands"] (spN K R_rows_of)) : Has P w K mg base 5 "alike" ["length", "stands"] (spP K R_alike) := by
  obtain ⟨f, fd, Fn, hg⟩ := T
  obtain ⟨_, _, G_need_length, g_need_length, k_need_length, b_need_length⟩ := h_need_length
  obtain ⟨_, _, G_need_stands, g_need_stands, k_need_stands, b_need_stands⟩ := h_need_stands
  obtain ⟨_, _, G_rows_of, g_rows_of, k_rows_of, b_rows_of⟩ := h_rows_of
  refine ⟨f, fd, okP Fn sc_alike ?len (fun cdv A outer s H E hr => ⟨_, (pss_cons (ps_expr (pe_call G_need_length (hr.mono (by first | decide | omega)) (by rfl) g_need_length k_need_length b_need_length .nil pass0 (pa_cons (pv 0) pa_nil)))
      (pss_cons (ps_expr (pe_call G_need_stands (hr.mono (by first | decide | omega)) (by rfl) g_need_stands k_need_stands b_need_stands .nil pass0 (pa_cons (pv 0) (pa_cons (pv 1) pa_nil))))
      (pss_cons (ps_set (i := 2) sc_alike.nd rfl (by first | exact .inl rfl | exact .inr rfl) (pe_call G_rows_of (hr.mono (by first | decide | omega)) (by rfl) g_rows_of k_rows_of b_rows_of .nil pass0 (pa_cons (pv 0) (pa_cons (pv 1) pa_nil))))
      (pss_cons (ps_for PassesOwn.never rfl (pi_range1 (by rfl) B.range_ (pa_cons (pe_op op_sub (pv 0) pe_int) pa_nil)) (pg_name (i := 3) sc_alike.nd rfl (by first | exact .inl rfl | exact .inr rfl))
      (pss_one (ps_if (pt_cmpR (w_eqD (K' := K) rfl hr.units) (pe_ix (w_ixL (K' := K) rfl) (pv 2) (pv 3) (fun _ _ => rfl)) (pe_ix (w_ixL (K' := K) rfl) (pv 2) (pe_op op_add (pv 3) pe_int) (fun _ _ => rfl)) (nomark _)) (pss_one (ps_ret (pe_tup (pa_cons (pe_op op_add (pv 3) pe_int) (pa_cons (pe_op op_add (pv 3) pe_int) pa_nil))))) pss_nil)))
      (pss_one (ps_ret pe_non)))))), ?_⟩), hg, Fn.kp, Fn.binds fun _ _ _ _ _ _ us hl => match us, hl with | [_, _], _ => rfl⟩
  case len =>
    rintro ds r ⟨n, xs, rfl, hn, hx, rfl⟩; rfl
  rintro ds r ⟨n, xs, rfl, hn, hx, rfl⟩ F L σ H D hrt hnx o
  try dsimp only [cxOf]
  have hl : xs.length ≤ 1000 := by have := hx.1; omega
  refine q_drop0 (ev_need_length (by wtm_at "ev") (within_int hn)) (fun σ H o => ?_) o
  refine q_drop0 (ev_need_stands (by wtm_at "ev") (by wtm_at "ev") hx) (fun σ H o => ?_) o
  refine q_asg0 (s := .dat (dR (rowsOn n xs))) (EvN.ev (ev_rows_of (ev_varD rfl) (ev_varD rfl) hn hl)) (fun σ H o => ?_) o
  replace o : Ok K F L σ H [.dat (.int n), .dat (dI xs), .dat (dR (rowsOn n xs)), .un] [] := o
  refine q_for0 (n := (n - 1).toNat) (item := fun k => .int (k : Nat)) (fun i ρ M => ∃ s3, (∀ j : Nat, j < i → same2 xs (1 + (j : Int)) = false) ∧ ρ = [.dat (.int n), .dat (dI xs), .dat (dR (rowsOn n xs)), s3] ∧ M = [])
    (ei_rng1 (EvA.cons (ev_sub (ev_varD rfl) ev_int) EvA.nil) (by omega) (by omega)) (by wtm_at "eg") ⟨.un, fun j h => absurd h (Nat.not_lt_zero j), rfl, rfl⟩ (fun F' sF i hi ρ M hJ σ H o => ?_) (fun ρ M hJ σ H o => ?_) o
  · obtain ⟨s3, h0, rfl, rfl⟩ := hJ
    replace o : Ok K F' L σ H [.dat (.int n), .dat (dI xs), .dat (dR (rowsOn n xs)), .dat (.int (i : Nat))] [] := o
    have hrl := rowsOn_len n xs
    refine s_if0 (b := same2 xs (1 + (i : Int))) (et_is (et_test (ev_eqD (ev_ixL (ev_varD rfl) (ev_varD rfl) (atI_map [] (by omega) (by omega))) (ev_ixL (ev_varD rfl) (ev_add (ev_varD rfl) ev_int) (atI_map [] (by omega) (by omega))) ((sh_dTS ?k1).shaped (by decide)) ((sh_dTS ?k2).shaped (by decide)))) ?eq) (fun e H o => ?_) (fun e H o => ?_) o
    case k1 => rw [rowsOn_get (by omega)]; exact answers_ok _ _
    case k2 => rw [rowsOn_get (by omega)]; exact answers_ok _ _
    case eq =>
      rw [eqv_dTS, rowsOn_get (by omega), rowsOn_get (by omega)]
      unfold same2
      rw [show 1 + (((i : Int).toNat : Nat) : Int) = 1 + (i : Int) by omega, show 1 + ((((i : Int) + 1).toNat : Nat) : Int) = 1 + (i : Int) + 1 by omega]
    · refine s_retP0 ?_ (fun v H1 s d => hrt v H1 (sF.trans s) d) o
      refine ev_isD (ev_tupD (ed_cons (ev_add (ev_varD rfl) ev_int) (ed_cons (ev_add (ev_varD rfl) ev_int) ed_nil)) (by simp)) ?_
      rw [alike_some (by omega) h0 e]
      have e1 : (i : Int) + 1 = 1 + (i : Int) := by omega
      have e2 : (i : Int) + 2 = 1 + (i : Int) + 1 := by omega
      rw [e1, e2]
    · exact ⟨_, _, ⟨.dat (.int (i : Nat)), fun j hj => (Nat.lt_succ_iff_lt_or_eq.mp hj).elim (h0 j) fun z => z ▸ e, rfl, rfl⟩, o⟩
  · obtain ⟨s3, h0, rfl, rfl⟩ := hJ
    refine s_retP0 (r := alikeD n xs) ?_ hrt o
    rw [alike_none fun j hj => h0 j (by omega)]
    exact ev_non
def fewA (n : Int) : Int := if 1 < n then 1 + n / 2 else 0
def R_fewest_ahead (ds : List PyData) (r : PyData) : Prop := ∃ n : Int, ds = [.int n] ∧ (1 ≤ n ∧ n ≤ 60) ∧ r = .int (fewA n)
theorem ev_fewest_ahead {K : PySem.W.Frag} {ta : TE} {ρ : List Sl} {M M1 : Ms} {E : XK} {n : Int} (ha : Ev K ta ρ M (.dat (.int n)) M1) (hn : 1 ≤ n ∧ n ≤ 60) :
    Ev K (tCall (spP K R_fewest_ahead) [] E (tCons ta tNil)) ρ M (.dat (.int (fewA n))) M1 := ev_callD (ed_cons ha ed_nil) ⟨n, rfl, hn, rfl⟩
abbrev s_fewest_ahead : Stmt := topS 34
theorem sc_fewest_ahead : FnScope ["length"] ["length"] (defScope s_fewest_ahead) := ⟨rfl, rfl, rfl, by decide +kernel, rfl, by decide +kernel, by decide +kernel⟩
theorem ok_fewest_ahead (T : Raw K mg "fewest_ahead" "fewest_ahead" s_fewest_ahead) (B : Bl mg)   (h_need_length : Has P w K mg base 2 "need_length" ["length"] (spP K R_need_length)) : Has P w K mg base 3 "fewest_ahead" ["length"] (spP K R_fewest_ahead) := by
  obtain ⟨f, fd, Fn, hg⟩ := T
  obtain ⟨_, _, G_need_length, g_need_length, k_need_length, b_need_length⟩ := h_need_length
  refine ⟨f, fd, okP Fn sc_fewest_ahead ?len (fun cdv A outer s H E hr => ⟨_, (pss_cons (ps_expr (pe_call G_need_length (hr.mono (by first | decide | omega)) (by rfl) g_need_length k_need_length b_need_length .nil pass0 (pa_cons (pv 0) pa_nil)))
      (pss_one (ps_ret (pe_ifExp (pt_cmpR op_gt (pv 0) pe_int (nomark _)) (pe_op op_add pe_int (pe_op op_fdiv (pv 0) pe_int)) pe_int)))), ?_⟩), hg, Fn.kp, Fn.binds fun _ _ _ _ _ _ us hl => match us, hl with | [_], _ => rfl⟩
  case len =>
    rintro ds r ⟨n, rfl, hn, rfl⟩; rfl
  rintro ds r ⟨n, rfl, hn, rfl⟩ F L σ H D hrt hnx o
  try dsimp only [cxOf]
  refine q_drop0 (ev_need_length (by wtm_at "ev") (within_int hn)) (fun σ H o => ?_) o
  refine s_retP0 (ev_isD (ev_ite2 (et_test (ev_gt (ev_varD rfl) ev_int)) (ev_add ev_int (ev_div (ev_varD rfl) ev_int ?c)) ev_int) ?e) hrt o
  case c => first | decide | exact ⟨by decide, by omega⟩ | (unfold CDiv; omega)
  case e =>
    unfold fewA
    by_cases h : 1 < n
    · rw [if_pos (decide_eq_true h), if_pos h]
    · rw [if_neg (by rw [decide_eq_false h]; exact Bool.false_ne_true), if_neg h]
def oddsL (n : Int) : List Int := (List.range ((n.toNat + 1) / 2)).map fun (k : Nat) => 1 + (k : Int) * 2
def aheadL (n : Int) : List Int := if n = 1 then [] else oddsL n ++ (if n % 2 = 0 then [n] else [])
def R_stands_ahead (ds : List PyData) (r : PyData) : Prop := ∃ n : Int, ds = [.int n] ∧ (1 ≤ n ∧ n ≤ 60) ∧ r = dI (aheadL n)
theorem ev_stands_ahead {K : PySem.W.Frag} {ta : TE} {ρ : List Sl} {M M1 : Ms} {E : XK} {n : Int} (ha : Ev K ta ρ M (.dat (.int n)) M1) (hn : 1 ≤ n ∧ n ≤ 60) :
    Ev K (tCall (spP K R_stands_ahead) [] E (tCons ta tNil)) ρ M (.dat (dI (aheadL n))) M1 := ev_callD (ed_cons ha ed_nil) ⟨n, rfl, hn, rfl⟩
abbrev s_stands_ahead : Stmt := topS 35
theorem sc_stands_ahead : FnScope ["length", "found"] ["length"] (defScope s_stands_ahead) := ⟨rfl, rfl, rfl, by decide +kernel, rfl, by decide +kernel, by decide +kernel⟩
theorem ok_stands_ahead (T : Raw K mg "stands_ahead" "stands_ahead" s_stands_ahead) (B : Bl mg)   (h_need_length : Has P w K mg base 2 "need_length" ["length"] (spP K R_need_length)) : Has P w K mg base 3 "stands_ahead" ["length"] (spP K R_stands_ahead) := by
  obtain ⟨f, fd, Fn, hg⟩ := T
  obtain ⟨_, _, G_need_length, g_need_length, k_need_length, b_need_length⟩ := h_need_length
  refine ⟨f, fd, okP Fn sc_stands_ahead ?len (fun cdv A outer s H E hr => ⟨_, (pss_cons (ps_expr (pe_call G_need_length (hr.mono (by first | decide | omega)) (by rfl) g_need_length k_need_length b_need_length .nil pass0 (pa_cons (pv 0) pa_nil)))
      (pss_cons (ps_if (pt_cmpR op_eq (pv 0) pe_int (nomark _)) (pss_one (ps_ret (pe_lst pa_nil))) pss_nil)
      (pss_cons (ps_set (i := 1) sc_stands_ahead.nd rfl (by first | exact .inl rfl | exact .inr rfl) (pe_listRg3 rfl (by rfl) B.list_ (by rfl) B.range_ (pa_cons pe_int (pa_cons (pe_op op_add (pv 0) pe_int) (pa_cons pe_int pa_nil)))))
      (pss_one (ps_ret (pe_ifExp (pt_cmpR op_eq (pe_op op_mod (pv 0) pe_int) pe_int (nomark _)) (pe_op o_cat (pv 1) (pe_lst (pa_cons (pv 0) pa_nil))) (pv 1))))))), ?_⟩), hg, Fn.kp, Fn.binds fun _ _ _ _ _ _ us hl => match us, hl with | [_], _ => rfl⟩
  case len =>
    rintro ds r ⟨n, rfl, hn, rfl⟩; rfl
  rintro ds r ⟨n, rfl, hn, rfl⟩ F L σ H D hrt hnx o
  try dsimp only [cxOf]
  refine q_drop0 (ev_need_length (by wtm_at "ev") (within_int hn)) (fun σ H o => ?_) o
  refine q_ifR0 (b := decide (n = 1)) (et_test (ev_eqI (ev_varD rfl) ev_int)) (fun e H o => s_retP0 ?_ hrt o) (fun e H o => ?_) o
  · unfold aheadL
    rw [if_pos (of_decide_eq_true e)]
    exact EvN.ev (evn_lstD (ds := []) ed_nil (by decide))
  · have e1 := of_decide_eq_false e
    refine q_asg0 (s := .dat (dI (oddsL n))) (EvN.ev (evn_listR3 (EvA.cons ev_int (EvA.cons (ev_add (ev_varD rfl) ev_int) (EvA.cons ev_int EvA.nil))) (rgC_two hn) (by omega))) (fun σ H o => ?_) o
    have hol : (oddsL n).length ≤ 1000 := by unfold oddsL; rw [List.length_map, List.length_range]; omega
    refine s_retP0 (ev_isD (ev_ite2 (et_test (ev_eqI (ev_mod (ev_varD rfl) ev_int (by decide)) ev_int)) (EvN.ev (evn_cat (ds := (oddsL n).map PyData.int) (es := [.int n]) (ev_varD rfl) (EvN.ev (evn_lstD (ed_cons (ev_varD rfl) ed_nil) (by simp))) (by simp; omega))) (ev_varD rfl)) ?_) hrt o
    unfold aheadL
    rw [if_neg e1]
    by_cases h : n % 2 = 0
    · rw [if_pos (decide_eq_true h), if_pos h]
      exact congrArg PyData.list (show (oddsL n).map PyData.int ++ [n].map PyData.int = (oddsL n ++ [n]).map PyData.int from List.map_append.symm)
    · rw [if_neg (by rw [decide_eq_false h]; exact Bool.false_ne_true), if_neg h, List.append_nil]
abbrev dII (rows : List (List Int)) : PyData := .list (rows.map fun r => .list (r.map PyData.int))
def moreL (n : Int) (row : List Int) : List (List Int) := (List.range n.toNat).map fun (k : Nat) => row ++ [1 + (k : Int)]
def allL (n : Int) : Nat → List (List Int)
  | 0 => [[]]
  | m + 1 => ((allL n m).map (moreL n)).flatten
theorem allL_len (n : Int) : ∀ m, (allL n m).length = n.toNat ^ m
  | 0 => rfl
  | m + 1 => by
    have h : ∀ rows : List (List Int), ((rows.map (moreL n)).flatten).length = rows.length * n.toNat := fun rows => by
      induction rows with
      | nil => simp
      | cons r rows ih => rw [List.map_cons, List.flatten_cons, List.length_append, ih, List.length_cons, Nat.add_mul, Nat.one_mul]; simp [moreL]; omega
    rw [allL, h, allL_len n m, Nat.pow_succ]
theorem mem_allL {n : Int} (hn : 1 ≤ n) : ∀ {m : Nat} {row : List Int}, row ∈ allL n m → row.length = m ∧ ∀ x ∈ row, 1 ≤ x ∧ x ≤ n
  | 0, row, h => by
    have : row = [] := by simpa [allL] using h
    rw [this]; exact ⟨rfl, fun x hx => nomatch hx⟩
  | m + 1, row, h => by
    rw [allL, List.mem_flatten] at h
    obtain ⟨l, h1, h2⟩ := h
    obtain ⟨r, hr, rfl⟩ := List.mem_map.mp h1
    obtain ⟨k, hk, rfl⟩ := List.mem_map.mp h2
    have := List.mem_range.mp hk
    obtain ⟨g1, g2⟩ := mem_allL hn hr
    refine ⟨by rw [List.length_append, g1]; rfl, fun x hx => ?_⟩
    rcases List.mem_append.mp hx with z | z
    · exact g2 x z
    · rw [List.mem_singleton.mp z]; omega
def R_law_all_stands (ds : List PyData) (r : PyData) : Prop := ∃ n m : Int, ds = [.int n, .int m] ∧ (1 ≤ n ∧ n ≤ 6) ∧ (0 ≤ m ∧ m ≤ 3) ∧ r = dII (allL n m.toNat)
theorem ev_law_all_stands {K : PySem.W.Frag} {ta tb : TE} {ρ : List Sl} {M M1 M2 : Ms} {E : XK} {n m : Int} (ha : Ev K ta ρ M (.dat (.int n)) M1) (hb : Ev K tb ρ M1 (.dat (.int m)) M2) (hn : 1 ≤ n ∧ n ≤ 6) (hm : 0 ≤ m ∧ m ≤ 3) :
    Ev K (tCall (spP K R_law_all_stands) [] E (tCons ta (tCons tb tNil))) ρ M (.dat (dII (allL n m.toNat))) M2 := ev_callD (ed_cons ha (ed_cons hb ed_nil)) ⟨n, m, rfl, hn, hm, rfl⟩
theorem pow_small {a m : Nat} (ha : a ≤ 6) (hm : m ≤ 3) : a ^ m ≤ 216 := Nat.le_trans (Nat.pow_le_pow_left ha m) (Nat.pow_le_pow_right (by decide) hm : 6 ^ m ≤ 6 ^ 3)
theorem flat_take {n : Int} {rows : List (List Int)} {j : Nat} (h : j < rows.length) : ((rows.take (j + 1)).map (moreL n)).flatten = ((rows.take j).map (moreL n)).flatten ++ moreL n (rows.getD j []) := by
  rw [List.take_succ, List.getElem?_eq_getElem h, List.getD_eq_getElem?_getD, List.getElem?_eq_getElem h, List.map_append, List.flatten_append]
  simp
theorem flat_len {n : Int} (rows : List (List Int)) : ((rows.map (moreL n)).flatten).length = rows.length * n.toNat := by
  induction rows with
  | nil => simp
  | cons r rows ih => rw [List.map_cons, List.flatten_cons, List.length_append, ih, List.length_cons, Nat.add_mul, Nat.one_mul]; simp [moreL]; omega
/-! wrong answers -/
def wrongs (t : Int) (xs : List Int) (ws : List Str) : Int := (((List.range ws.length).filter fun i => !decide ((answers t xs).getD i Str.empty = ws.getD i Str.empty)).length : Nat)
def countsW (n : Int) (xs : List Int) (ws : List Str) : List Int := (List.range n.toNat).map fun (k : Nat) => wrongs (1 + (k : Int)) xs ws
def leastAt (cs : List Int) : List Int := ((List.range cs.length).filter fun k => decide (cs.getD k 0 = lmin cs)).map fun (k : Nat) => (k : Int) + 1
def fwD (n : Int) (xs : List Int) (ws : List Str) : PyData := .tuple [.int (lmin (countsW n xs ws)), dTI (leastAt (countsW n xs ws))]
theorem sh_fwD {n : Int} {xs : List Int} {ws : List Str} : Sh 2 (fwD n xs ws) := sh_tuple fun d hd => by
  have : d = .int (lmin (countsW n xs ws)) ∨ d = dTI (leastAt (countsW n xs ws)) := by simpa using hd
  rcases this with h | h <;> subst h
  · exact sh_int.mono (by decide)
  · exact sh_dTI
theorem countsW_len (n : Int) (xs : List Int) (ws : List Str) : (countsW n xs ws).length = n.toNat := by simp [countsW]
/-- len([1 for one, other in zip(xs, ys) if one != other]) -/
theorem ev_wrongs {K : PySem.W.Frag} {ρ : List Sl} {M : Ms} {tr : TA} {i j : Nat} {t : Int} {xs : List Int} {ws : List Str} (h : EvA K tr ρ M [.dat (dS (answers t xs)), .dat (dS ws)] M) (hw : wsOk xs ws) (hl : xs.length ≤ 1000) (hij : i ≠ j)
    (hi : ∀ a b : Sl, (((wp ρ [i, j]).set i a).set j b)[i]? = some a) (hj : ∀ a b : Sl, (((wp ρ [i, j]).set i a).set j b)[j]? = some b) :
    Ev K (tCB (rLen K) (tCons (tLc (iZip K tr) (gTup K 2 (gCons (gName i) (gCons (gName j) gNil))) (tTest (tOp rNe (tVar i) (tVar j))) (tC (.int 1)) [i, j]) tNil)) ρ M (.dat (.int (wrongs t xs ws))) M := by
  have hn : min (answers t xs).length ws.length = ws.length := by rw [answers_len, hw.1]; omega
  have hz := ei_zipS h
  rw [hn] at hz
  refine ev_isD (ev_lenL (EvA.cons (EvN.ev (evn_lcF (js := [i, j]) (up := fun k ρ => (ρ.set i (.dat (.str ((answers t xs).getD k Str.empty)))).set j (.dat (.str (ws.getD k Str.empty)))) (fun k => !decide ((answers t xs).getD k Str.empty = ws.getD k Str.empty)) (fun _ => .int 1) hz (fun k hk => eg_two) (by simp) (fun k hk => et_test (ev_neS (ev_varD (hi _ _)) (ev_varD (hj _ _)))) (fun k hk => ev_int) (by have := hw.1; omega))) EvA.nil)) ?_
  unfold given wrongs
  rw [List.length_map]
def R_fewest_wrong (ds : List PyData) (r : PyData) : Prop := ∃ n xs ws, ds = [.int n, dI xs, dS ws] ∧ (1 ≤ n ∧ n ≤ 60) ∧ stOk n xs ∧ wsOk xs ws ∧ r = fwD n xs ws
theorem ev_fewest_wrong {K : PySem.W.Frag} {ta tb tc : TE} {ρ : List Sl} {M M1 M2 M3 : Ms} {E : XK} {n : Int} {xs : List Int} {ws : List Str} (ha : Ev K ta ρ M (.dat (.int n)) M1) (hb : Ev K tb ρ M1 (.dat (dI xs)) M2) (hc : Ev K tc ρ M2 (.dat (dS ws)) M3) (hn : 1 ≤ n ∧ n ≤ 60) (hl : stOk n xs) (hw : wsOk xs ws) :
    Ev K (tCall (spP K R_fewest_wrong) [] E (tCons ta (tCons tb (tCons tc tNil)))) ρ M (.dat (fwD n xs ws)) M3 := ev_callD (ed_cons ha (ed_cons hb (ed_cons hc ed_nil))) ⟨n, xs, ws, rfl, hn, hl, hw, rfl⟩
abbrev s_fewest_wrong : Stmt := topS 29
theorem sc_fewest_wrong : FnScope ["length", "stands", "answers", "counts", "thing", "least", "place", "count", "one", "other"] ["length", "stands", "answers"] (defScope s_fewest_wrong) := ⟨rfl, rfl, rfl, by decide +kernel, rfl, by decide +kernel, by decide +kernel⟩
theorem ok_fewest_wrong (T : Raw K mg "fewest_wrong" "fewest_wrong" s_fewest_wrong) (B : Bl mg)   (h_need_length : Has P w K mg base 2 "need_length" ["length"] (spP K R_need_length)) (h_need_stands : Has P w K mg base 2 "need_stands" ["length", "stands"] (spP K R_need_stands)) (h_need_answers : Has P w K mg base 2 "need_answers" ["stands", "answers"] (spP K R_need_answers)) (h_all_answers : Has P w K mg base 3 "all_answers" ["thing", "stands"] (spN K R_all_answers)) : Has P w K mg base 4 "fewest_wrong" ["length", "stands", "answers"] (spP K R_fewest_wrong) := by
  obtain ⟨f, fd, Fn, hg⟩ := T
  obtain ⟨_, _, G_need_length, g_need_length, k_need_length, b_need_length⟩ := h_need_length
  obtain ⟨_, _, G_need_stands, g_need_stands, k_need_stands, b_need_stands⟩ := h_need_stands
  obtain ⟨_, _, G_need_answers, g_need_answers, k_need_answers, b_need_answers⟩ := h_need_answers
  obtain ⟨_, _, G_all_answers, g_all_answers, k_all_answers, b_all_answers⟩ := h_all_answers
  refine ⟨f, fd, okP Fn sc_fewest_wrong ?len (fun cdv A outer s H E hr => ⟨_, (pss_cons (ps_expr (pe_call G_need_length (hr.mono (by first | decide | omega)) (by rfl) g_need_length k_need_length b_need_length .nil pass0 (pa_cons (pv 0) pa_nil)))
      (pss_cons (ps_expr (pe_call G_need_stands (hr.mono (by first | decide | omega)) (by rfl) g_need_stands k_need_stands b_need_stands .nil pass0 (pa_cons (pv 0) (pa_cons (pv 1) pa_nil))))
      (pss_cons (ps_expr (pe_call G_need_answers (hr.mono (by first | decide | omega)) (by rfl) g_need_answers k_need_answers b_need_answers .nil pass0 (pa_cons (pv 1) (pa_cons (pv 2) pa_nil))))
      (pss_cons (ps_set (i := 3) sc_fewest_wrong.nd rfl (by first | exact .inl rfl | exact .inr rfl) (pe_lst pa_nil))
      (pss_cons (ps_for PassesOwn.never rfl (pi_range2 (by rfl) B.range_ (pa_cons pe_int (pa_cons (pe_op op_add (pv 0) pe_int) pa_nil))) (pg_name (i := 4) sc_fewest_wrong.nd rfl (by first | exact .inl rfl | exact .inr rfl))
      (pss_one (ps_expr (pe_bm PySem.F.plainAttrs_list PySem.F.slot_list_append PySem.F.type_list_append mt_append (pv 3) (pa_cons (pe_callB (w_len (K' := K) rfl) (by rfl) B.len_ (by decide +kernel) (pa_cons (pe_lc (own := [("one", 8), ("other", 9)]) (g := gTup K 2 (gCons (gName 8) (gCons (gName 9) gNil))) rfl sc_fewest_wrong.nd (wi_zip (K' := K) rfl (by rfl) B.zip_ (pa_cons (pe_call G_all_answers (hr.mono (by first | decide | omega)) (by rfl) g_all_answers k_all_answers b_all_answers .nil pass0 (pa_cons (pv 4) (pa_cons (pv 1) pa_nil))) (pa_cons (pv 2) pa_nil))) (blkOk_by (own := [("one", 8), ("other", 9)]) (N := ["length", "stands", "answers", "counts", "thing", "least", "place", "count", "one", "other"]) (sc := defScope s_fewest_wrong) (by decide +kernel)) (fun _ _ _ _ _ => (pg_tup rfl (pgs_cons (pg_name (i := 8) sc_fewest_wrong.nd rfl (by first | exact .inl rfl | exact .inr rfl)) (pgs_cons (pg_name (i := 9) sc_fewest_wrong.nd rfl (by first | exact .inl rfl | exact .inr rfl)) pgs_nil)))) (fun _ _ _ _ _ => (pts_one (pt_cmpR op_ne (pv 8) (pv 9) (nomark _)))) (fun _ _ _ _ _ => pe_int)) pa_nil)) pa_nil)))))
      (pss_cons (ps_set (i := 5) sc_fewest_wrong.nd rfl (by first | exact .inl rfl | exact .inr rfl) (pe_callB (w_min (K' := K) rfl rfl) (by rfl) B.min_ (by decide +kernel) (pa_cons (pv 3) pa_nil)))
      (pss_one (ps_ret (pe_tup (pa_cons (pv 5) (pa_cons (we_tupleOf (K' := K) rfl (by rfl) B.tuple_ (pe_lc (own := [("place", 6), ("count", 7)]) (g := gTup K 2 (gCons (gName 6) (gCons (gName 7) gNil))) rfl sc_fewest_wrong.nd (wi_enum (K' := K) rfl (by rfl) B.enumerate_ (pa_cons (pv 3) pa_nil)) (blkOk_by (own := [("place", 6), ("count", 7)]) (N := ["length", "stands", "answers", "counts", "thing", "least", "place", "count", "one", "other"]) (sc := defScope s_fewest_wrong) (by decide +kernel)) (fun _ _ _ _ _ => (pg_tup rfl (pgs_cons (pg_name (i := 6) sc_fewest_wrong.nd rfl (by first | exact .inl rfl | exact .inr rfl)) (pgs_cons (pg_name (i := 7) sc_fewest_wrong.nd rfl (by first | exact .inl rfl | exact .inr rfl)) pgs_nil)))) (fun _ _ _ _ _ => (pts_one (pt_cmpR op_eq (pv 7) (pv 5) (nomark _)))) (fun _ _ _ _ _ => (pe_op op_add (pv 6) pe_int)))) pa_nil))))))))))), ?_⟩), hg, Fn.kp, Fn.binds fun _ _ _ _ _ _ us hl => match us, hl with | [_, _, _], _ => rfl⟩
  case len =>
    rintro ds r ⟨n, xs, ws, rfl, hn, hx, hw, rfl⟩; rfl
  rintro ds r ⟨n, xs, ws, rfl, hn, hx, hw, rfl⟩ F L σ H D hrt hnx o
  try dsimp only [cxOf]
  have hl : xs.length ≤ 1000 := by have := hx.1; omega
  refine q_drop0 (ev_need_length (by wtm_at "ev") (within_int hn)) (fun σ H o => ?_) o
  refine q_drop0 (ev_need_stands (by wtm_at "ev") (by wtm_at "ev") hx) (fun σ H o => ?_) o
  refine q_drop0 (ev_need_answers (by wtm_at "ev") (by wtm_at "ev") hl hw) (fun σ H o => ?_) o
  refine q_asgNF (M1 := []) (by wtm_at "en") (fun q σ H qL o => ?_) o
  replace o : Ok K F L σ H [.dat (.int n), .dat (dI xs), .dat (dS ws), .loc (.ref q), .un, .un, .un, .un, .un, .un] [(q, .lst [])] := o
  refine q_for0 (fun i ρ M => ∃ s4, ρ = [.dat (.int n), .dat (dI xs), .dat (dS ws), .loc (.ref q), s4, .un, .un, .un, .un, .un] ∧ M = [(q, .lst (((List.range i).map fun (k : Nat) => wrongs (1 + (k : Int)) xs ws).map PyData.int))])
    (ei_rng2 (by wtm_at "ea") (by omega)) (by wtm_at "eg") ⟨.un, rfl, rfl⟩ (fun F' sF i hi ρ M hJ σ H o => ?_) (fun ρ M hJ σ H o => ?_) o
  · obtain ⟨s4, rfl, rfl⟩ := hJ
    refine s_app (j := 0) (d := .int (wrongs (1 + (i : Nat)) xs ws)) (by wtm_at "ev") (ev_wrongs (EvA.cons (EvN.ev (ev_all_answers (by wtm_at "ev") (by wtm_at "ev") hl)) (EvA.cons (by wtm_at "ev") EvA.nil)) hw hl (by decide) (fun _ _ => rfl) (fun _ _ => rfl)) rfl rfl (by simp; omega) (fun σ H o => ?_) o
    refine ⟨_, _, ⟨.dat (.int (1 + (i : Nat))), rfl, rfl⟩, ?_⟩
    rw [List.range_succ, List.map_append, List.map_append]
    exact o
  · obtain ⟨s4, rfl, rfl⟩ := hJ
    have e : ((List.range (n + 1 - 1).toNat).map fun (k : Nat) => wrongs (1 + (k : Int)) xs ws) = countsW n xs ws := by
      rw [show (n + 1 - 1).toNat = n.toNat by omega]; rfl
    rw [e] at o
    have o2 := Ok.freeze 0 o rfl qL (ρ' := [.dat (.int n), .dat (dI xs), .dat (dS ws), .dat (dI (countsW n xs ws)), s4, .un, .un, .un, .un, .un]) (.same (.same (.same (.here (.same (.same (.same (.same (.same (.same .nil))))))))))
    replace o2 : Ok K F L σ H [.dat (.int n), .dat (dI xs), .dat (dS ws), .dat (dI (countsW n xs ws)), s4, .un, .un, .un, .un, .un] [] := o2
    have hne : countsW n xs ws ≠ [] := fun z => by
      have := countsW_len n xs ws
      rw [z] at this
      simp at this; omega
    refine q_asg0 (ev_minL (EvA.cons (by wtm_at "ev") EvA.nil) (lmin_mem hne) (fun y hy => lmin_le hy)) (fun σ H o => ?_) o2
    refine s_retP0 (ev_tupD (ed_cons (by wtm_at "ev") (ed_cons (ev_tupleL (EvN.ev (evn_is (evn_lcF (js := [6, 7]) (up := fun k ρ => (ρ.set 6 (.dat (.int (k : Nat)))).set 7 (.dat (.int ((countsW n xs ws).getD k 0)))) (fun k => decide ((countsW n xs ws).getD k 0 = lmin (countsW n xs ws))) (fun k => .int ((k : Nat) + 1)) (ei_enumI (EvA.cons (by wtm_at "ev") EvA.nil)) (fun k hk => eg_two) (by simp) (fun k hk => by wtm_at "et") (fun k hk => by wtm_at "ev") (by rw [countsW_len]; omega)) ?eq))) ed_nil)) (by simp)) hrt o
    case eq =>
      unfold given leastAt
      rw [List.map_map]; rfl
def farR (n a b : Int) : Int := min ((a - b).natAbs : Int) (n - (a - b).natAbs)
def R_far_round (ds : List PyData) (r : PyData) : Prop := ∃ n a b : Int, ds = [.int n, .int a, .int b] ∧ r = .int (farR n a b)
theorem ev_far_round {K : PySem.W.Frag} {ta tb tc : TE} {ρ : List Sl} {M M1 M2 M3 : Ms} {E : XK} {n a b : Int} (ha : Ev K ta ρ M (.dat (.int n)) M1) (hb : Ev K tb ρ M1 (.dat (.int a)) M2) (hc : Ev K tc ρ M2 (.dat (.int b)) M3) :
    Ev K (tCall (spP K R_far_round) [] E (tCons ta (tCons tb (tCons tc tNil)))) ρ M (.dat (.int (farR n a b))) M3 := ev_callD (ed_cons ha (ed_cons hb (ed_cons hc ed_nil))) ⟨n, a, b, rfl, rfl⟩
abbrev s_far_round : Stmt := topS 45
theorem sc_far_round : FnScope ["length", "one", "other"] ["length", "one", "other"] (defScope s_far_round) := ⟨rfl, rfl, rfl, by decide +kernel, rfl, by decide +kernel, by decide +kernel⟩
theorem ok_far_round (T : Raw K mg "far_round" "far_round" s_far_round) (B : Bl mg)    : Has P w K mg base 1 "far_round" ["length", "one", "other"] (spP K R_far_round) := by
  obtain ⟨f, fd, Fn, hg⟩ := T
  refine ⟨f, fd, okP Fn sc_far_round ?len (fun cdv A outer s H E hr => ⟨_, (pss_one (ps_ret (pe_callB (c_min2 rfl) (by rfl) B.min_ (by decide +kernel) (pa_cons (pe_callB c_abs (by rfl) B.abs_ (by decide +kernel) (pa_cons (pe_op op_sub (pv 1) (pv 2)) pa_nil)) (pa_cons (pe_op op_sub (pv 0) (pe_callB c_abs (by rfl) B.abs_ (by decide +kernel) (pa_cons (pe_op op_sub (pv 1) (pv 2)) pa_nil))) pa_nil))))), ?_⟩), hg, Fn.kp, Fn.binds fun _ _ _ _ _ _ us hl => match us, hl with | [_, _, _], _ => rfl⟩
  case len =>
    rintro ds r ⟨n, a, b, rfl, rfl⟩; rfl
  rintro ds r ⟨n, a, b, rfl, rfl⟩ F L σ H D hrt hnx o
  try dsimp only [cxOf]
  exact s_retP0 (ev_min2 (EvA.cons (ev_abs (EvA.cons (ev_sub (ev_varD rfl) (ev_varD rfl)) EvA.nil)) (EvA.cons (ev_sub (ev_varD rfl) (ev_abs (EvA.cons (ev_sub (ev_varD rfl) (ev_varD rfl)) EvA.nil))) EvA.nil))) hrt o
/-- the words of a row of distances -/
def wordsW (fs : List Int) : List Str := (List.range (fs.length - 1)).map fun i => wordOf (fs.getD i 0) (fs.getD (i + 1) 0)
theorem wordOf_int (f n : Int) : wordOf f n = (if f = n then wSame else if n < f then wWarm else wCold) := rfl
def farsR (n t : Int) (xs : List Int) : List Int := xs.map (farR n t)
def answersR (n t : Int) (xs : List Int) : List Str := wordsW (farsR n t xs)
theorem wordsW_len (fs : List Int) : (wordsW fs).length = fs.length - 1 := by simp [wordsW]
theorem answersR_len (n t : Int) (xs : List Int) : (answersR n t xs).length = xs.length - 1 := by simp [answersR, wordsW, farsR]
theorem answersR_mem (n t : Int) (xs : List Int) : ∀ w ∈ answersR n t xs, w ∈ wordsL := fun w hw => by
  obtain ⟨i, _, rfl⟩ := List.mem_map.mp hw
  exact wordOf_memL _ _
theorem answersR_ok (n t : Int) (xs : List Int) : ∀ w ∈ answersR n t xs, PyData.strOk w = true := fun w hw => wordsL_ok _ (answersR_mem n t xs w hw)
theorem answersR_ws (n t : Int) (xs : List Int) : wsOk xs (answersR n t xs) := ⟨answersR_len n t xs, answersR_mem n t xs⟩
def R_answers_round (ds : List PyData) (rs : List PyData) : Prop := ∃ (n t : Int) (xs : List Int), ds = [.int n, .int t, dI xs] ∧ xs.length ≤ 1000 ∧ rs = (answersR n t xs).map PyData.str
theorem ev_answers_round {K : PySem.W.Frag} {ta tb tc : TE} {ρ : List Sl} {M M1 M2 M3 : Ms} {E : XK} {n t : Int} {xs : List Int} (ha : Ev K ta ρ M (.dat (.int n)) M1) (hb : Ev K tb ρ M1 (.dat (.int t)) M2) (hc : Ev K tc ρ M2 (.dat (dI xs)) M3) (hl : xs.length ≤ 1000) :
    EvN K (tCall (spN K R_answers_round) [] E (tCons ta (tCons tb (tCons tc tNil)))) ρ M ((answersR n t xs).map PyData.str) M3 := evn_callD (ed_cons ha (ed_cons hb (ed_cons hc ed_nil))) ⟨n, t, xs, rfl, hl, rfl⟩
abbrev s_answers_round : Stmt := topS 46
theorem sc_answers_round : FnScope ["length", "thing", "stands", "ways", "place", "far", "near"] ["length", "thing", "stands"] (defScope s_answers_round) := ⟨rfl, rfl, rfl, by decide +kernel, rfl, by decide +kernel, by decide +kernel⟩
theorem ok_answers_round (T : Raw K mg "answers_round" "answers_round" s_answers_round) (B : Bl mg)   (h_far_round : Has P w K mg base 1 "far_round" ["length", "one", "other"] (spP K R_far_round)) (h_word_for : Has P w K mg base 1 "word_for" ["far", "near"] (spP K R_word_for)) : Has P w K mg base 2 "answers_round" ["length", "thing", "stands"] (spN K R_answers_round) := by
  obtain ⟨f, fd, Fn, hg⟩ := T
  obtain ⟨_, _, G_far_round, g_far_round, k_far_round, b_far_round⟩ := h_far_round
  obtain ⟨_, _, G_word_for, g_word_for, k_word_for, b_word_for⟩ := h_word_for
  refine ⟨f, fd, okN Fn sc_answers_round ?len (fun cdv A outer s H E hr => ⟨_, (pss_cons (ps_setLc (i := 3) (own := [("place", 4)]) (g := gName 4) rfl sc_answers_round.nd rfl rfl (sw_true rfl rfl rfl (by decide +kernel)) (wi_list (K' := K) rfl (pv 2)) (blkOk_by (own := [("place", 4)]) (N := ["length", "thing", "stands", "ways", "place", "far", "near"]) (sc := defScope s_answers_round) (by decide +kernel)) (fun _ _ _ _ _ => (pg_name (i := 4) sc_answers_round.nd rfl (by first | exact .inl rfl | exact .inr rfl))) (fun _ _ _ _ _ => pts_nil) (fun _ _ _ _ _ => (pe_call G_far_round (hr.mono (by first | decide | omega)) (by rfl) g_far_round k_far_round b_far_round .nil pass0 (pa_cons (pv 0) (pa_cons (pv 1) (pa_cons (pv 4) pa_nil))))))
      (pss_one (ps_ret (pe_lc (own := [("far", 5), ("near", 6)]) (g := gTup K 2 (gCons (gName 5) (gCons (gName 6) gNil))) rfl sc_answers_round.nd (wi_zip (K' := K) rfl (by rfl) B.zip_ (pa_cons (pv 3) (pa_cons (pe_slice (w_slL (K' := K) rfl) (pv 3) (po_some pe_int) po_none) pa_nil))) (blkOk_by (own := [("far", 5), ("near", 6)]) (N := ["length", "thing", "stands", "ways", "place", "far", "near"]) (sc := defScope s_answers_round) (by decide +kernel)) (fun _ _ _ _ _ => (pg_tup rfl (pgs_cons (pg_name (i := 5) sc_answers_round.nd rfl (by first | exact .inl rfl | exact .inr rfl)) (pgs_cons (pg_name (i := 6) sc_answers_round.nd rfl (by first | exact .inl rfl | exact .inr rfl)) pgs_nil)))) (fun _ _ _ _ _ => pts_nil) (fun _ _ _ _ _ => (pe_call G_word_for (hr.mono (by first | decide | omega)) (by rfl) g_word_for k_word_for b_word_for .nil pass0 (pa_cons (pv 5) (pa_cons (pv 6) pa_nil)))))))), ?_⟩), hg, Fn.kp, Fn.binds fun _ _ _ _ _ _ us hl => match us, hl with | [_, _, _], _ => rfl⟩
  case len =>
    rintro ds r ⟨n, t, xs, rfl, hl, rfl⟩; rfl
  rintro ds rs ⟨n, t, xs, rfl, hl, rfl⟩ F L σ H D hrt o
  try dsimp only [cxOf]
  refine q_asg0 (s := .dat (dI (farsR n t xs))) (EvN.ev (evn_is (evn_lcP (fun k => .int (farR n t (xs.getD k 0))) (ei_listI (ev_varD rfl)) (by wtm_at "eg") (by simp) (fun k hk => ev_far_round (ev_varD rfl) (ev_varD rfl) (ev_varD rfl)) (by omega)) ?eq)) (fun σ H o => ?_) o
  case eq =>
    unfold farsR
    rw [List.map_map]
    exact range_map_getD xs 0 fun x => PyData.int (farR n t x)
  replace o : Ok K F L σ H [.dat (.int n), .dat (.int t), .dat (dI xs), .dat (dI (farsR n t xs)), .un, .un, .un] [] := o
  have hfl : (farsR n t xs).length = xs.length := by simp [farsR]
  have hz := ei_zipI (K := K) (ρ := [.dat (.int n), .dat (.int t), .dat (dI xs), .dat (dI (farsR n t xs)), .un, .un, .un]) (M := []) (M1 := []) (xs := farsR n t xs) (ys := (farsR n t xs).drop 1) (EvA.cons (ev_varD (i := 3) rfl) (EvA.cons (EvN.ev (evn_is (evn_slL (ev_varD (i := 3) rfl) (eo_some ev_int) eo_no) (by rw [cutD_tail, List.map_drop]))) EvA.nil))
  rw [show min (farsR n t xs).length ((farsR n t xs).drop 1).length = (farsR n t xs).length - 1 by rw [List.length_drop]; omega] at hz
  refine s_retNN0 (evn_is (evn_lcP (fun k => .str (wordOf ((farsR n t xs).getD k 0) ((farsR n t xs).getD (k + 1) 0))) hz (fun k hk => eg_two) (by simp) (fun k hk => ?_) (by omega)) ?_) hrt o
  · have e : ((farsR n t xs).drop 1).getD k 0 = (farsR n t xs).getD (k + 1) 0 := by
      rw [List.getD_eq_getElem?_getD, List.getElem?_drop, ← List.getD_eq_getElem?_getD, Nat.add_comm]
    rw [e]
    exact ev_word_for (ev_varD rfl) (ev_varD rfl)
  · unfold answersR wordsW
    rw [List.map_map]; rfl
def placesR (n : Int) (xs : List Int) (ws : List Str) : List Int := ((List.range n.toNat).filter fun (k : Nat) => decide (answersR n (1 + (k : Int)) xs = ws)).map fun (k : Nat) => 1 + (k : Int)
def R_can_lie_round (ds : List PyData) (r : PyData) : Prop := ∃ n xs ws, ds = [.int n, dI xs, dS ws] ∧ (1 ≤ n ∧ n ≤ 60) ∧ stOk n xs ∧ wsOk xs ws ∧ r = dTI (placesR n xs ws)
theorem ev_can_lie_round {K : PySem.W.Frag} {ta tb tc : TE} {ρ : List Sl} {M M1 M2 M3 : Ms} {E : XK} {n : Int} {xs : List Int} {ws : List Str} (ha : Ev K ta ρ M (.dat (.int n)) M1) (hb : Ev K tb ρ M1 (.dat (dI xs)) M2) (hc : Ev K tc ρ M2 (.dat (dS ws)) M3) (hn : 1 ≤ n ∧ n ≤ 60) (hl : stOk n xs) (hw : wsOk xs ws) :
    Ev K (tCall (spP K R_can_lie_round) [] E (tCons ta (tCons tb (tCons tc tNil)))) ρ M (.dat (dTI (placesR n xs ws))) M3 := ev_callD (ed_cons ha (ed_cons hb (ed_cons hc ed_nil))) ⟨n, xs, ws, rfl, hn, hl, hw, rfl⟩
abbrev s_can_lie_round : Stmt := topS 47
theorem sc_can_lie_round : FnScope ["length", "stands", "answers", "thing"] ["length", "stands", "answers"] (defScope s_can_lie_round) := ⟨rfl, rfl, rfl, by decide +kernel, rfl, by decide +kernel, by decide +kernel⟩
theorem ok_can_lie_round (T : Raw K mg "can_lie_round" "can_lie_round" s_can_lie_round) (B : Bl mg)   (h_need_length : Has P w K mg base 2 "need_length" ["length"] (spP K R_need_length)) (h_need_stands : Has P w K mg base 2 "need_stands" ["length", "stands"] (spP K R_need_stands)) (h_need_answers : Has P w K mg base 2 "need_answers" ["stands", "answers"] (spP K R_need_answers)) (h_answers_round : Has P w K mg base 2 "answers_round" ["length", "thing", "stands"] (spN K R_answers_round)) : Has P w K mg base 3 "can_lie_round" ["length", "stands", "answers"] (spP K R_can_lie_round) := by
  obtain ⟨f, fd, Fn, hg⟩ := T
  obtain ⟨_, _, G_need_length, g_need_length, k_need_length, b_need_length⟩ := h_need_length
  obtain ⟨_, _, G_need_stands, g_need_stands, k_need_stands, b_need_stands⟩ := h_need_stands
  obtain ⟨_, _, G_need_answers, g_need_answers, k_need_answers, b_need_answers⟩ := h_need_answers
  obtain ⟨_, _, G_answers_round, g_answers_round, k_answers_round, b_answers_round⟩ := h_answers_round
  refine ⟨f, fd, okP Fn sc_can_lie_round ?len (fun cdv A outer s H E hr => ⟨_, (pss_cons (ps_expr (pe_call G_need_length (hr.mono (by first | decide | omega)) (by rfl) g_need_length k_need_length b_need_length .nil pass0 (pa_cons (pv 0) pa_nil)))
      (pss_cons (ps_expr (pe_call G_need_stands (hr.mono (by first | decide | omega)) (by rfl) g_need_stands k_need_stands b_need_stands .nil pass0 (pa_cons (pv 0) (pa_cons (pv 1) pa_nil))))
      (pss_cons (ps_expr (pe_call G_need_answers (hr.mono (by first | decide | omega)) (by rfl) g_need_answers k_need_answers b_need_answers .nil pass0 (pa_cons (pv 1) (pa_cons (pv 2) pa_nil))))
      (pss_one (ps_ret (we_tupleOf (K' := K) rfl (by rfl) B.tuple_ (pe_lc (own := [("thing", 3)]) (g := gName 3) rfl sc_can_lie_round.nd (pi_range2 (by rfl) B.range_ (pa_cons pe_int (pa_cons (pe_op op_add (pv 0) pe_int) pa_nil))) (blkOk_by (own := [("thing", 3)]) (N := ["length", "stands", "answers", "thing"]) (sc := defScope s_can_lie_round) (by decide +kernel)) (fun _ _ _ _ _ => (pg_name (i := 3) sc_can_lie_round.nd rfl (by first | exact .inl rfl | exact .inr rfl))) (fun _ _ _ _ _ => (pts_one (pt_cmpR (w_eqD (K' := K) rfl hr.units) (pe_call G_answers_round (hr.mono (by first | decide | omega)) (by rfl) g_answers_round k_answers_round b_answers_round .nil pass0 (pa_cons (pv 0) (pa_cons (pv 3) (pa_cons (pv 1) pa_nil)))) (pv 2) (nomark _)))) (fun _ _ _ _ _ => (pv 3))))))))), ?_⟩), hg, Fn.kp, Fn.binds fun _ _ _ _ _ _ us hl => match us, hl with | [_, _, _], _ => rfl⟩
  case len =>
    rintro ds r ⟨n, xs, ws, rfl, hn, hx, hw, rfl⟩; rfl
  rintro ds r ⟨n, xs, ws, rfl, hn, hx, hw, rfl⟩ F L σ H D hrt hnx o
  try dsimp only [cxOf]
  have hl : xs.length ≤ 1000 := by have := hx.1; omega
  have hwk : ∀ w ∈ ws, PyData.strOk w = true := fun w h => wordsL_ok w (hw.2 w h)
  refine q_drop0 (ev_need_length (by wtm_at "ev") (within_int hn)) (fun σ H o => ?_) o
  refine q_drop0 (ev_need_stands (by wtm_at "ev") (by wtm_at "ev") hx) (fun σ H o => ?_) o
  refine q_drop0 (ev_need_answers (by wtm_at "ev") (by wtm_at "ev") hl hw) (fun σ H o => ?_) o
  refine s_retP0 (ev_tupleL (ds := (placesR n xs ws).map PyData.int) (EvN.ev (evn_is (evn_lcF (n := (n + 1 - 1).toNat) (fun k => decide (answersR n (1 + (k : Int)) xs = ws)) (fun k => .int (1 + (k : Int))) (ei_rng2 (EvA.cons ev_int (EvA.cons (ev_add (ev_varD rfl) ev_int) EvA.nil)) (by omega)) (by wtm_at "eg") (by simp)
    (fun k hk => et_is (et_test (ev_eqD (EvN.ev (ev_answers_round (ev_varD rfl) (ev_varD rfl) (ev_varD rfl) hl)) (ev_varD rfl) ((sh_dS (answersR_ok _ _ _)).shaped (by decide)) ((sh_dS hwk).shaped (by decide)))) (by rw [eqv_dS])) (fun k hk => ev_varD rfl) (by omega)) ?eq))) hrt o
  case eq =>
    rw [show (n + 1 - 1).toNat = n.toNat by omega]
    unfold given placesR
    rw [List.map_map]; rfl
def rowsR (n : Int) (xs : List Int) : List (List Str) := (List.range n.toNat).map fun (k : Nat) => answersR n (1 + (k : Int)) xs
theorem rowsR_len (n : Int) (xs : List Int) : (rowsR n xs).length = n.toNat := by simp [rowsR]
theorem rowsR_get {n : Int} {xs : List Int} {i : Nat} (h : i < n.toNat) : (rowsR n xs).getD i [] = answersR n (1 + (i : Int)) xs := by
  unfold rowsR
  rw [List.getD_eq_getElem?_getD, List.getElem?_map, List.getElem?_range h]; rfl
theorem rowsR_ok (n : Int) (xs : List Int) : ∀ r ∈ rowsR n xs, ∀ w ∈ r, PyData.strOk w = true := fun r hr => by
  obtain ⟨k, _, rfl⟩ := List.mem_map.mp hr
  exact answersR_ok _ _ _
def R_how_many_round (ds : List PyData) (r : PyData) : Prop := ∃ n xs, ds = [.int n, dI xs] ∧ (1 ≤ n ∧ n ≤ 60) ∧ stOk n xs ∧ r = .int ((dd (rowsR n xs)).length : Nat)
theorem ev_how_many_round {K : PySem.W.Frag} {ta tb : TE} {ρ : List Sl} {M M1 M2 : Ms} {E : XK} {n : Int} {xs : List Int} (ha : Ev K ta ρ M (.dat (.int n)) M1) (hb : Ev K tb ρ M1 (.dat (dI xs)) M2) (hn : 1 ≤ n ∧ n ≤ 60) (hl : stOk n xs) :
    Ev K (tCall (spP K R_how_many_round) [] E (tCons ta (tCons tb tNil))) ρ M (.dat (.int ((dd (rowsR n xs)).length : Nat))) M2 := ev_callD (ed_cons ha (ed_cons hb ed_nil)) ⟨n, xs, rfl, hn, hl, rfl⟩
abbrev s_how_many_round : Stmt := topS 48
theorem sc_how_many_round : FnScope ["length", "stands", "thing"] ["length", "stands"] (defScope s_how_many_round) := ⟨rfl, rfl, rfl, by decide +kernel, rfl, by decide +kernel, by decide +kernel⟩
theorem ok_how_many_round (T : Raw K mg "how_many_round" "how_many_round" s_how_many_round) (B : Bl mg)   (h_need_length : Has P w K mg base 2 "need_length" ["length"] (spP K R_need_length)) (h_need_stands : Has P w K mg base 2 "need_stands" ["length", "stands"] (spP K R_need_stands)) (h_answers_round : Has P w K mg base 2 "answers_round" ["length", "thing", "stands"] (spN K R_answers_round)) : Has P w K mg base 3 "how_many_round" ["length", "stands"] (spP K R_how_many_round) := by
  obtain ⟨f, fd, Fn, hg⟩ := T
  obtain ⟨_, _, G_need_length, g_need_length, k_need_length, b_need_length⟩ := h_need_length
  obtain ⟨_, _, G_need_stands, g_need_stands, k_need_stands, b_need_stands⟩ := h_need_stands
  obtain ⟨_, _, G_answers_round, g_answers_round, k_answers_round, b_answers_round⟩ := h_answers_round
  refine ⟨f, fd, okP Fn sc_how_many_round ?len (fun cdv A outer s H E hr => ⟨_, (pss_cons (ps_expr (pe_call G_need_length (hr.mono (by first | decide | omega)) (by rfl) g_need_length k_need_length b_need_length .nil pass0 (pa_cons (pv 0) pa_nil)))
      (pss_cons (ps_expr (pe_call G_need_stands (hr.mono (by first | decide | omega)) (by rfl) g_need_stands k_need_stands b_need_stands .nil pass0 (pa_cons (pv 0) (pa_cons (pv 1) pa_nil))))
      (pss_one (ps_ret (we_lenSetT (K' := K) rfl rfl hr.units (by rfl) B.len_ (by rfl) B.set_ (pe_lc (own := [("thing", 2)]) (g := gName 2) rfl sc_how_many_round.nd (pi_range2 (by rfl) B.range_ (pa_cons pe_int (pa_cons (pe_op op_add (pv 0) pe_int) pa_nil))) (blkOk_by (own := [("thing", 2)]) (N := ["length", "stands", "thing"]) (sc := defScope s_how_many_round) (by decide +kernel)) (fun _ _ _ _ _ => (pg_name (i := 2) sc_how_many_round.nd rfl (by first | exact .inl rfl | exact .inr rfl))) (fun _ _ _ _ _ => pts_nil) (fun _ _ _ _ _ => (we_tupleOf (K' := K) rfl (by rfl) B.tuple_ (pe_call G_answers_round (hr.mono (by first | decide | omega)) (by rfl) g_answers_round k_answers_round b_answers_round .nil pass0 (pa_cons (pv 0) (pa_cons (pv 2) (pa_cons (pv 1) pa_nil)))))))))))), ?_⟩), hg, Fn.kp, Fn.binds fun _ _ _ _ _ _ us hl => match us, hl with | [_, _], _ => rfl⟩
  case len =>
    rintro ds r ⟨n, xs, rfl, hn, hx, rfl⟩; rfl
  rintro ds r ⟨n, xs, rfl, hn, hx, rfl⟩ F L σ H D hrt hnx o
  try dsimp only [cxOf]
  have hl : xs.length ≤ 1000 := by have := hx.1; omega
  refine q_drop0 (ev_need_length (by wtm_at "ev") (within_int hn)) (fun σ H o => ?_) o
  refine q_drop0 (ev_need_stands (by wtm_at "ev") (by wtm_at "ev") hx) (fun σ H o => ?_) o
  refine s_retP0 (ev_lenSetT (rows := rowsR n xs) (D := dd (rowsR n xs)) (EvN.ev (evn_is (evn_lcP (n := (n + 1 - 1).toNat) (fun k => .tuple ((answersR n (1 + (k : Int)) xs).map PyData.str)) (ei_rng2 (EvA.cons ev_int (EvA.cons (ev_add (ev_varD rfl) ev_int) EvA.nil)) (by omega)) (by wtm_at "eg") (by simp) (fun k hk => ev_tupleL (EvN.ev (ev_answers_round (ev_varD rfl) (ev_varD rfl) (ev_varD rfl) hl))) (by omega)) ?eq)) (by rw [rowsR_len]; omega) (nd_dd _) fun k => mem_dd) hrt o
  rw [show (n + 1 - 1).toNat = n.toNat by omega]
  unfold rowsR
  rw [List.map_map]; rfl
def dU (n a b : Int) : Int := if a ≤ b then b - a else b - a + n
def dD (n a b : Int) : Int := if b ≤ a then a - b else a - b + n
theorem step_up {n h b : Int} (hn : 1 ≤ n) (h1 : 1 ≤ h ∧ h ≤ n) (b1 : 1 ≤ b ∧ b ≤ n) (ne : h ≠ b) : (1 ≤ 1 + (h - 1 + 1) % n ∧ 1 + (h - 1 + 1) % n ≤ n) ∧ dU n (1 + (h - 1 + 1) % n) b = dU n h b - 1 ∧ 0 < dU n h b := by
  have e : 1 + (h - 1 + 1) % n = if h = n then 1 else h + 1 := by
    rw [show h - 1 + 1 = h by omega]
    by_cases c : h = n
    · rw [if_pos c, c, Int.emod_self]; rfl
    · rw [if_neg c, Int.emod_eq_of_lt (by omega) (by omega)]; omega
  rw [e]
  unfold dU
  split <;> split <;> split <;> omega
theorem step_down {n h b : Int} (hn : 1 ≤ n) (h1 : 1 ≤ h ∧ h ≤ n) (b1 : 1 ≤ b ∧ b ≤ n) (ne : h ≠ b) : (1 ≤ 1 + (h - 1 + -1) % n ∧ 1 + (h - 1 + -1) % n ≤ n) ∧ dD n (1 + (h - 1 + -1) % n) b = dD n h b - 1 ∧ 0 < dD n h b := by
  have e : 1 + (h - 1 + -1) % n = if h = 1 then n else h - 1 := by
    by_cases c : h = 1
    · rw [if_pos c, c, show (1 - 1 + -1 : Int) = (n - 1) + n * (-1) by omega, Int.add_mul_emod_self_left, Int.emod_eq_of_lt (by omega) (by omega)]; omega
    · rw [if_neg c, Int.emod_eq_of_lt (by omega) (by omega)]; omega
  rw [e]
  unfold dD
  split <;> split <;> split <;> omega
def dW (n a b : Int) (i : Nat) : Int := if i = 0 then dU n a b else dD n a b
def wayOf (i : Nat) : Int := if i = 0 then 1 else -1
theorem dW_zero {n a : Int} {i : Nat} : dW n a a i = 0 := by
  unfold dW dU dD
  split <;> (rw [if_pos (Int.le_refl _)]; omega)
theorem step_way {n h b : Int} {i : Nat} (hn : 1 ≤ n) (h1 : 1 ≤ h ∧ h ≤ n) (b1 : 1 ≤ b ∧ b ≤ n) (ne : h ≠ b) : (1 ≤ 1 + (h - 1 + wayOf i) % n ∧ 1 + (h - 1 + wayOf i) % n ≤ n) ∧ dW n (1 + (h - 1 + wayOf i) % n) b i = dW n h b i - 1 ∧ 0 < dW n h b i := by
  unfold dW wayOf
  split
  · exact step_up hn h1 b1 ne
  · exact step_down hn h1 b1 ne
def R_law_round (ds : List PyData) (r : PyData) : Prop := ∃ n a b : Int, ds = [.int n, .int a, .int b] ∧ (1 ≤ n ∧ n ≤ 60) ∧ (1 ≤ a ∧ a ≤ n) ∧ (1 ≤ b ∧ b ≤ n) ∧ r = .int (farR n a b)
theorem ev_law_round {K : PySem.W.Frag} {ta tb tc : TE} {ρ : List Sl} {M M1 M2 M3 : Ms} {E : XK} {n a b : Int} (ha : Ev K ta ρ M (.dat (.int n)) M1) (hb : Ev K tb ρ M1 (.dat (.int a)) M2) (hc : Ev K tc ρ M2 (.dat (.int b)) M3) (hn : 1 ≤ n ∧ n ≤ 60) (h1 : 1 ≤ a ∧ a ≤ n) (h2 : 1 ≤ b ∧ b ≤ n) :
    Ev K (tCall (spP K R_law_round) [] E (tCons ta (tCons tb (tCons tc tNil)))) ρ M (.dat (.int (farR n a b))) M3 := ev_callD (ed_cons ha (ed_cons hb (ed_cons hc ed_nil))) ⟨n, a, b, rfl, hn, h1, h2, rfl⟩
def R_law_words_round (ds : List PyData) (rs : List PyData) : Prop := ∃ (n t : Int) (xs : List Int), ds = [.int n, .int t, dI xs] ∧ (1 ≤ n ∧ n ≤ 60) ∧ (1 ≤ t ∧ t ≤ n) ∧ stOk n xs ∧ rs = (answersR n t xs).map PyData.str
theorem ev_law_words_round {K : PySem.W.Frag} {ta tb tc : TE} {ρ : List Sl} {M M1 M2 M3 : Ms} {E : XK} {n t : Int} {xs : List Int} (ha : Ev K ta ρ M (.dat (.int n)) M1) (hb : Ev K tb ρ M1 (.dat (.int t)) M2) (hc : Ev K tc ρ M2 (.dat (dI xs)) M3) (hn : 1 ≤ n ∧ n ≤ 60) (ht : 1 ≤ t ∧ t ≤ n) (hl : stOk n xs) :
    EvN K (tCall (spN K R_law_words_round) [] E (tCons ta (tCons tb (tCons tc tNil)))) ρ M ((answersR n t xs).map PyData.str) M3 := evn_callD (ed_cons ha (ed_cons hb (ed_cons hc ed_nil))) ⟨n, t, xs, rfl, hn, ht, hl, rfl⟩
/-! what each door refuses -/
inductive Er where
  | length | place | stands | answers | stretch
def Er.nm : Er → Str
  | .length => "NoLength" | .place => "NoPlace" | .stands => "NoStands" | .answers => "NoAnswers" | .stretch => "NoStretch"
abbrev CE := Er → Addr
abbrev ErrsC (K : PySem.W.Frag) (mg : Str → Option Value) (ce : CE) : Prop := ∀ x : Er, ErrC K mg x.nm (ce x)
/-- a def over data that refuses -/
def XD (ce : CE) (X : List PyData → Er → Prop) (M : Ms) (ss : List Sl) (C : Addr) : Prop := ∃ (ds : List PyData) (x : Er), M = [] ∧ ss = ds.map Sl.dat ∧ X ds x ∧ C = ce x
def badSt (n : Int) : PyData → Bool
  | .list ds => decide (40 < ds.length) || !(ds.all fun d => within d 1 n)
  | .dict _ => false
  | _ => true
def badAn (m : Nat) : PyData → Bool
  | .list ds => decide (ds.length ≠ m - 1) || !(ds.all isWord)
  | .dict _ => false
  | _ => true
theorem all_map_id {α : Type} (f : α → Bool) (l : List α) : (l.map f).all id = l.all f := by rw [List.all_map]; rfl
def X_need_lengthA (ds : List PyData) (x : Er) : Prop := ∃ d, ds = [d] ∧ within d 1 60 = false ∧ x = .length
theorem okX_need_length_A {f : Addr} {fd : FuncData} (Fn : Fun K "need_length" "need_length" s_need_length f fd) (B : Bl mg) {ce : CE} (YE : ErrsC K mg ce) (h_is_within : Has P w K mg base 1 "is_within" ["thing", "low", "high"] (spP K R_is_within)) : FnOk P w K mg base (L2N.CX P w) 20 f fd ["length"] (spE K (XD ce X_need_lengthA)) := by
  obtain ⟨_, _, G_is_within, g_is_within, k_is_within, b_is_within⟩ := h_is_within
  refine okE Fn sc_need_length ?len (fun cdv A outer s H E hr => ⟨_, (pss_one (ps_if (pt_not (pt_val (pe_call G_is_within (hr.mono (by first | decide | omega)) (by rfl) g_is_within k_is_within b_is_within .nil pass0 (pa_cons (pv 0) (pa_cons pe_int (pa_cons pe_int pa_nil)))))) (pss_one (ps_raiseX (x := "NoLength") (YE .length) rfl)) pss_nil)), ?_⟩)
  case len =>
    rintro M ss C' ⟨_, _, rfl, rfl, ⟨d, rfl, hw, rfl⟩, rfl⟩ <;> rfl
  rintro M ss C' ⟨_, _, rfl, rfl, ⟨d, rfl, hw, rfl⟩, rfl⟩ F L σ H D hE hL o
  try dsimp only [cxOf]
  replace o : Ok K F L σ H [.dat d] [] := o
  exact s_ifT0 (et_is (et_not (et_test (ev_is_within (ev_varD rfl) ev_int ev_int))) (by rw [hw]; rfl)) (fun H o => hE _ o.fr (o.mobs fun x hx => hx)) o

theorem okX_need_length (B : Bl mg) {ce : CE} (YE : ErrsC K mg ce) (T : Raw K mg "need_length" "need_length" s_need_length) (h_is_within : Has P w K mg base 1 "is_within" ["thing", "low", "high"] (spP K R_is_within)) : HasX P w K mg base 20 "need_length" ["length"] (spE K (XD ce X_need_lengthA)) := by
  obtain ⟨f, fd, Fn, hg⟩ := T
  exact ⟨f, fd, ((okX_need_length_A Fn B YE h_is_within).mono (by decide)), hg, Fn.kp, Fn.binds fun _ _ _ _ _ _ us hl => match us, hl with | [_], _ => rfl⟩
def X_need_placeA (ds : List PyData) (x : Er) : Prop := ∃ (n : Int) (d : PyData), ds = [.int n, d] ∧ within d 1 n = false ∧ x = .place
theorem okX_need_place_A {f : Addr} {fd : FuncData} (Fn : Fun K "need_place" "need_place" s_need_place f fd) (B : Bl mg) {ce : CE} (YE : ErrsC K mg ce) (h_is_within : Has P w K mg base 1 "is_within" ["thing", "low", "high"] (spP K R_is_within)) : FnOk P w K mg base (L2N.CX P w) 20 f fd ["length", "place"] (spE K (XD ce X_need_placeA)) := by
  obtain ⟨_, _, G_is_within, g_is_within, k_is_within, b_is_within⟩ := h_is_within
  refine okE Fn sc_need_place ?len (fun cdv A outer s H E hr => ⟨_, (pss_one (ps_if (pt_not (pt_val (pe_call G_is_within (hr.mono (by first | decide | omega)) (by rfl) g_is_within k_is_within b_is_within .nil pass0 (pa_cons (pv 1) (pa_cons pe_int (pa_cons (pv 0) pa_nil)))))) (pss_one (ps_raiseX (x := "NoPlace") (YE .place) rfl)) pss_nil)), ?_⟩)
  case len =>
    rintro M ss C' ⟨_, _, rfl, rfl, ⟨n, d, rfl, hw, rfl⟩, rfl⟩ <;> rfl
  rintro M ss C' ⟨_, _, rfl, rfl, ⟨n, d, rfl, hw, rfl⟩, rfl⟩ F L σ H D hE hL o
  try dsimp only [cxOf]
  replace o : Ok K F L σ H [.dat (.int n), .dat d] [] := o
  exact s_ifT0 (et_is (et_not (et_test (ev_is_within (ev_varD rfl) ev_int (ev_varD rfl)))) (by rw [hw]; rfl)) (fun H o => hE _ o.fr (o.mobs fun x hx => hx)) o

theorem okX_need_place (B : Bl mg) {ce : CE} (YE : ErrsC K mg ce) (T : Raw K mg "need_place" "need_place" s_need_place) (h_is_within : Has P w K mg base 1 "is_within" ["thing", "low", "high"] (spP K R_is_within)) : HasX P w K mg base 20 "need_place" ["length", "place"] (spE K (XD ce X_need_placeA)) := by
  obtain ⟨f, fd, Fn, hg⟩ := T
  exact ⟨f, fd, ((okX_need_place_A Fn B YE h_is_within).mono (by decide)), hg, Fn.kp, Fn.binds fun _ _ _ _ _ _ us hl => match us, hl with | [_, _], _ => rfl⟩
def X_need_standsA (ds : List PyData) (x : Er) : Prop := ∃ (n : Int) (d : PyData), ds = [.int n, d] ∧ badSt n d = true ∧ x = .stands
theorem okX_need_stands_A {f : Addr} {fd : FuncData} (Fn : Fun K "need_stands" "need_stands" s_need_stands f fd) (B : Bl mg) {ce : CE} (YE : ErrsC K mg ce) (h_is_within : Has P w K mg base 1 "is_within" ["thing", "low", "high"] (spP K R_is_within)) : FnOk P w K mg base (L2N.CX P w) 20 f fd ["length", "stands"] (spE K (XD ce X_need_standsA)) := by
  obtain ⟨_, _, G_is_within, g_is_within, k_is_within, b_is_within⟩ := h_is_within
  refine okE Fn sc_need_stands ?len (fun cdv A outer s H E hr => ⟨_, (pss_one (ps_if (PW.pt (pw_or (pt_not (pt_val (pe_callB (w_isi (K' := K) rfl) (by rfl) B.isinstance_ (by decide +kernel) (pa_cons (pv 1) (pa_cons (pe_bltn (by rfl) B.list_ (by decide +kernel) (show RelV (.ty "list") _ from rfl)) pa_nil))))) (pw_or (pt_cmpR op_gt (pe_callB (w_len (K' := K) rfl) (by rfl) B.len_ (by decide +kernel) (pa_cons (pv 1) pa_nil)) pe_int (nomark _)) (pw_or1 (pt_not (pt_val (pe_callB (w_all (K' := K) rfl rfl) (by rfl) B.all_ (by decide +kernel) (pa_cons (pe_lc (own := [("one", 2)]) (g := gName 2) rfl sc_need_stands.nd (wi_list (K' := K) rfl (pv 1)) (blkOk_by (own := [("one", 2)]) (N := ["length", "stands", "one"]) (sc := defScope s_need_stands) (by decide +kernel)) (fun _ _ _ _ _ => (pg_name (i := 2) sc_need_stands.nd rfl (by first | exact .inl rfl | exact .inr rfl))) (fun _ _ _ _ _ => pts_nil) (fun _ _ _ _ _ => (pe_call G_is_within (hr.mono (by first | decide | omega)) (by rfl) g_is_within k_is_within b_is_within .nil pass0 (pa_cons (pv 2) (pa_cons pe_int (pa_cons (pv 0) pa_nil)))))) pa_nil)))))))) (pss_one (ps_raiseX (x := "NoStands") (YE .stands) rfl)) pss_nil)), ?_⟩)
  case len =>
    rintro M ss C' ⟨_, _, rfl, rfl, ⟨n, d, rfl, hw, rfl⟩, rfl⟩ <;> rfl
  rintro M ss C' ⟨_, _, rfl, rfl, ⟨n, d, rfl, hw, rfl⟩, rfl⟩ F L σ H D hE hL o
  try dsimp only [cxOf]
  replace o : Ok K F L σ H [.dat (.int n), .dat d, .un] [] := o
  refine s_ifT0 ?et (fun H o => hE _ o.fr (o.mobs fun x hx => hx)) o
  case et =>
    cases d with
    | list ds =>
      by_cases e : 40 < ds.length
      · exact et_orFM (et_is (et_not (et_test (ev_isi (ev_varD rfl) (by simp)))) rfl) (et_orT (et_is (et_test (ev_gt (ev_lenL (EvA.cons (ev_varD rfl) EvA.nil)) ev_int)) (decide_eq_true (by omega))))
      · have ha : (ds.all fun d => within d 1 n) = false := by simpa [badSt, e] using hw
        refine et_orFM (et_is (et_not (et_test (ev_isi (ev_varD rfl) (by simp)))) rfl) (et_orFM (et_is (et_test (ev_gt (ev_lenL (EvA.cons (ev_varD rfl) EvA.nil)) ev_int)) (decide_eq_false (by omega))) (et_is (et_not (et_test (ev_allB (bs := ds.map fun d => within d 1 n) (EvA.cons (EvN.ev (evn_is (evn_lcP (n := ds.length) (item := fun i => ds.getD i .none) (fun i => .bool (within (ds.getD i .none) 1 n)) (ei_list (ev_varD rfl)) (by wtm_at "eg") (by simp) (fun i hi => ev_is_within (ev_varD rfl) ev_int (ev_varD rfl)) (by omega)) ?eq)) EvA.nil)))) (by rw [all_map_id, ha]; rfl)))
        rw [range_map_getD ds .none fun d => PyData.bool (within d 1 n), List.map_map]; rfl
    | dict x => cases hw
    | int x => exact et_orT (et_is (et_not (et_test (ev_isi (ev_varD rfl) (by simp)))) rfl)
    | bool x => exact et_orT (et_is (et_not (et_test (ev_isi (ev_varD rfl) (by simp)))) rfl)
    | none => exact et_orT (et_is (et_not (et_test (ev_isi (ev_varD rfl) (by simp)))) rfl)
    | str x => exact et_orT (et_is (et_not (et_test (ev_isi (ev_varD rfl) (by simp)))) rfl)
    | tuple x => exact et_orT (et_is (et_not (et_test (ev_isi (ev_varD rfl) (by simp)))) rfl)

theorem okX_need_stands (B : Bl mg) {ce : CE} (YE : ErrsC K mg ce) (T : Raw K mg "need_stands" "need_stands" s_need_stands) (h_is_within : Has P w K mg base 1 "is_within" ["thing", "low", "high"] (spP K R_is_within)) : HasX P w K mg base 20 "need_stands" ["length", "stands"] (spE K (XD ce X_need_standsA)) := by
  obtain ⟨f, fd, Fn, hg⟩ := T
  exact ⟨f, fd, ((okX_need_stands_A Fn B YE h_is_within).mono (by decide)), hg, Fn.kp, Fn.binds fun _ _ _ _ _ _ us hl => match us, hl with | [_, _], _ => rfl⟩
def X_need_answersA (ds : List PyData) (x : Er) : Prop := ∃ (xs : List Int) (d : PyData), ds = [dI xs, d] ∧ (match d with | .list ds => ds.length ≠ xs.length - 1 | .dict _ => False | _ => True) ∧ x = .answers
theorem okX_need_answers_A {f : Addr} {fd : FuncData} (Fn : Fun K "need_answers" "need_answers" s_need_answers f fd) (B : Bl mg) {ce : CE} (YE : ErrsC K mg ce)  : FnOk P w K mg base (L2N.CX P w) 20 f fd ["stands", "answers"] (spE K (XD ce X_need_answersA)) := by
  refine okE Fn sc_need_answers ?len (fun cdv A outer s H E hr => ⟨_, (pss_cons (ps_if (PW.pt (pw_or (pt_not (pt_val (pe_callB (w_isi (K' := K) rfl) (by rfl) B.isinstance_ (by decide +kernel) (pa_cons (pv 1) (pa_cons (pe_bltn (by rfl) B.list_ (by decide +kernel) (show RelV (.ty "list") _ from rfl)) pa_nil))))) (pw_or1 (pt_cmpR op_ne (pe_callB (w_len (K' := K) rfl) (by rfl) B.len_ (by decide +kernel) (pa_cons (pv 1) pa_nil)) (pe_callB (c_max2 rfl) (by rfl) B.max_ (by decide +kernel) (pa_cons pe_int (pa_cons (pe_op op_sub (pe_callB (w_len (K' := K) rfl) (by rfl) B.len_ (by decide +kernel) (pa_cons (pv 0) pa_nil)) pe_int) pa_nil))) (nomark _))))) (pss_one (ps_raiseX (x := "NoAnswers") (YE .answers) rfl)) pss_nil)
      pss_never), ?_⟩)
  case len =>
    rintro M ss C' ⟨_, _, rfl, rfl, ⟨xs, d, rfl, hw, rfl⟩, rfl⟩ <;> rfl
  rintro M ss C' ⟨_, _, rfl, rfl, ⟨xs, d, rfl, hw, rfl⟩, rfl⟩ F L σ H D hE hL o
  try dsimp only [cxOf]
  replace o : Ok K F L σ H [.dat (dI xs), .dat d, .un] [] := o
  refine xq_ifT ?et (fun H D o => hE _ o.fr (o.mobs fun x hx => hx)) o
  case et =>
    cases d with
    | list ds =>
      have hw' : ds.length ≠ xs.length - 1 := hw
      exact et_orFM (et_is (et_not (et_test (ev_isi (ev_varD rfl) (by simp)))) rfl) (et_is (et_test (ev_neI (ev_lenL (EvA.cons (ev_varD rfl) EvA.nil)) (ev_max2 (EvA.cons ev_int (EvA.cons (ev_sub (ev_lenL (EvA.cons (ev_varD rfl) EvA.nil)) ev_int) EvA.nil))))) (by rw [List.length_map, decide_eq_false (by omega)]; rfl))
    | dict x => cases hw
    | int x => exact et_orT (et_is (et_not (et_test (ev_isi (ev_varD rfl) (by simp)))) rfl)
    | bool x => exact et_orT (et_is (et_not (et_test (ev_isi (ev_varD rfl) (by simp)))) rfl)
    | none => exact et_orT (et_is (et_not (et_test (ev_isi (ev_varD rfl) (by simp)))) rfl)
    | str x => exact et_orT (et_is (et_not (et_test (ev_isi (ev_varD rfl) (by simp)))) rfl)
    | tuple x => exact et_orT (et_is (et_not (et_test (ev_isi (ev_varD rfl) (by simp)))) rfl)
def X_need_answersB (ds : List PyData) (x : Er) : Prop := ∃ (xs : List Int) (es : List PyData), ds = [dI xs, .list es] ∧ (es.length = xs.length - 1 ∧ es.length ≤ 1000 ∧ es.all isWord = false) ∧ x = .answers
theorem okX_need_answers_B {f : Addr} {fd : FuncData} (Fn : Fun K "need_answers" "need_answers" s_need_answers f fd) (B : Bl mg) {ce : CE} (YE : ErrsC K mg ce) (h_is_answer : Has P w K mg base 1 "is_answer" ["thing"] (spP K R_is_answer)) : FnOk P w K mg base (L2N.CX P w) 20 f fd ["stands", "answers"] (spE K (XD ce X_need_answersB)) := by
  obtain ⟨_, _, G_is_answer, g_is_answer, k_is_answer, b_is_answer⟩ := h_is_answer
  refine okE Fn sc_need_answers ?len (fun cdv A outer s H E hr => ⟨_, (pss_cons (ps_if (PW.pt (pw_or (pt_not (pt_val (pe_callB (w_isi (K' := K) rfl) (by rfl) B.isinstance_ (by decide +kernel) (pa_cons (pv 1) (pa_cons (pe_bltn (by rfl) B.list_ (by decide +kernel) (show RelV (.ty "list") _ from rfl)) pa_nil))))) (pw_or1 (pt_cmpR op_ne (pe_callB (w_len (K' := K) rfl) (by rfl) B.len_ (by decide +kernel) (pa_cons (pv 1) pa_nil)) (pe_callB (c_max2 rfl) (by rfl) B.max_ (by decide +kernel) (pa_cons pe_int (pa_cons (pe_op op_sub (pe_callB (w_len (K' := K) rfl) (by rfl) B.len_ (by decide +kernel) (pa_cons (pv 0) pa_nil)) pe_int) pa_nil))) (nomark _))))) (pss_one (ps_raiseX (x := "NoAnswers") (YE .answers) rfl)) pss_nil)
      (pss_one (ps_if (pt_not (pt_val (pe_callB (w_all (K' := K) rfl rfl) (by rfl) B.all_ (by decide +kernel) (pa_cons (pe_lc (own := [("word", 2)]) (g := gName 2) rfl sc_need_answers.nd (wi_list (K' := K) rfl (pv 1)) (blkOk_by (own := [("word", 2)]) (N := ["stands", "answers", "word"]) (sc := defScope s_need_answers) (by decide +kernel)) (fun _ _ _ _ _ => (pg_name (i := 2) sc_need_answers.nd rfl (by first | exact .inl rfl | exact .inr rfl))) (fun _ _ _ _ _ => pts_nil) (fun _ _ _ _ _ => (pe_call G_is_answer (hr.mono (by first | decide | omega)) (by rfl) g_is_answer k_is_answer b_is_answer .nil pass0 (pa_cons (pv 2) pa_nil)))) pa_nil)))) (pss_one (ps_raiseX (x := "NoAnswers") (YE .answers) rfl)) pss_nil))), ?_⟩)
  case len =>
    rintro M ss C' ⟨_, _, rfl, rfl, ⟨xs, es, rfl, ⟨h1, h3, h2⟩, rfl⟩, rfl⟩ <;> rfl
  rintro M ss C' ⟨_, _, rfl, rfl, ⟨xs, es, rfl, ⟨h1, h3, h2⟩, rfl⟩, rfl⟩ F L σ H D hE hL o
  try dsimp only [cxOf]
  replace o : Ok K F L σ H [.dat (dI xs), .dat (.list es), .un] [] := o
  refine q_ifF0 (et_orF (et_is (et_not (et_test (ev_isi (ev_varD rfl) (by simp)))) rfl) (et_is (et_test (ev_neI (ev_lenL (EvA.cons (ev_varD rfl) EvA.nil)) (ev_max2 (EvA.cons ev_int (EvA.cons (ev_sub (ev_lenL (EvA.cons (ev_varD rfl) EvA.nil)) ev_int) EvA.nil))))) (by rw [List.length_map, decide_eq_true (by omega)]; rfl))) (fun H o => ?_) o
  refine s_ifT0 (et_is (et_not (et_test (ev_allB (bs := es.map isWord) (EvA.cons (EvN.ev (evn_is (evn_lcP (n := es.length) (item := fun i => es.getD i .none) (fun i => .bool (isWord (es.getD i .none))) (ei_list (ev_varD rfl)) (by wtm_at "eg") (by simp) (fun i hi => ev_is_answer (ev_varD rfl)) (by omega)) ?eq)) EvA.nil)))) (by rw [all_map_id, h2]; rfl)) (fun H o => hE _ o.fr (o.mobs fun x hx => hx)) o
  rw [range_map_getD es .none fun d => PyData.bool (isWord d), List.map_map]; rfl

theorem okX_need_answers (B : Bl mg) {ce : CE} (YE : ErrsC K mg ce) (T : Raw K mg "need_answers" "need_answers" s_need_answers) (h_is_answer : Has P w K mg base 1 "is_answer" ["thing"] (spP K R_is_answer)) : HasX P w K mg base 20 "need_answers" ["stands", "answers"] (spE K (fun M ss C => XD ce X_need_answersA M ss C ∨ XD ce X_need_answersB M ss C)) := by
  obtain ⟨f, fd, Fn, hg⟩ := T
  exact ⟨f, fd, (fnOk_xor ((okX_need_answers_A Fn B YE ).mono (by decide)) ((okX_need_answers_B Fn B YE h_is_answer).mono (by decide))), hg, Fn.kp, Fn.binds fun _ _ _ _ _ _ us hl => match us, hl with | [_, _], _ => rfl⟩
def X_answers_toA (ds : List PyData) (x : Er) : Prop := ∃ d e1 e2, ds = [d, e1, e2] ∧ within d 1 60 = false ∧ x = .length
theorem okX_answers_to_A {f : Addr} {fd : FuncData} (Fn : Fun K "answers_to" "answers_to" s_answers_to f fd) (B : Bl mg) {ce : CE} (YE : ErrsC K mg ce) (hX_need_length : HasX P w K mg base 20 "need_length" ["length"] (spE K (XD ce X_need_lengthA))) : FnOk P w K mg base (L2N.CX P w) 24 f fd ["length", "thing", "stands"] (spE K (XD ce X_answers_toA)) := by
  obtain ⟨_, _, GX_need_length, gX_need_length, kX_need_length, bX_need_length⟩ := hX_need_length
  refine okE Fn sc_answers_to ?len (fun cdv A outer s H E hr => ⟨_, (pss_cons (ps_expr (pe_call GX_need_length (hr.mono (by first | decide | omega)) (by rfl) gX_need_length kX_need_length bX_need_length .nil passE (pa_cons (pv 0) pa_nil)))
      pss_never), ?_⟩)
  case len =>
    rintro M ss C' ⟨_, _, rfl, rfl, ⟨d, e1, e2, rfl, hw, rfl⟩, rfl⟩ <;> rfl
  rintro M ss C' ⟨_, _, rfl, rfl, ⟨d, e1, e2, rfl, hw, rfl⟩, rfl⟩ F L σ H D hE hL o
  try dsimp only [cxOf]
  have o2 := o
  exact xq_drop (fun Q => x_call (EvA.cons (ev_varD (d := d) rfl) EvA.nil) [] (List.nil_sublist _) ⟨[d], .length, rfl, rfl, ⟨_, rfl, hw, rfl⟩, rfl⟩ (fun H1 o1 => hE _ o1.fr (o1.mobs fun x hx => hx)) o)
def X_answers_toB (ds : List PyData) (x : Er) : Prop := ∃ (n : Int) (d e2 : PyData), ds = [.int n, d, e2] ∧ ((1 ≤ n ∧ n ≤ 60) ∧ within d 1 n = false) ∧ x = .place
theorem okX_answers_to_B {f : Addr} {fd : FuncData} (Fn : Fun K "answers_to" "answers_to" s_answers_to f fd) (B : Bl mg) {ce : CE} (YE : ErrsC K mg ce) (h_need_length : Has P w K mg base 2 "need_length" ["length"] (spP K R_need_length)) (hX_need_place : HasX P w K mg base 20 "need_place" ["length", "place"] (spE K (XD ce X_need_placeA))) : FnOk P w K mg base (L2N.CX P w) 24 f fd ["length", "thing", "stands"] (spE K (XD ce X_answers_toB)) := by
  obtain ⟨_, _, G_need_length, g_need_length, k_need_length, b_need_length⟩ := h_need_length
  obtain ⟨_, _, GX_need_place, gX_need_place, kX_need_place, bX_need_place⟩ := hX_need_place
  refine okE Fn sc_answers_to ?len (fun cdv A outer s H E hr => ⟨_, (pss_cons (ps_expr (pe_call G_need_length (hr.mono (by first | decide | omega)) (by rfl) g_need_length k_need_length b_need_length .nil pass0 (pa_cons (pv 0) pa_nil)))
      (pss_cons (ps_expr (pe_call GX_need_place (hr.mono (by first | decide | omega)) (by rfl) gX_need_place kX_need_place bX_need_place .nil passE (pa_cons (pv 0) (pa_cons (pv 1) pa_nil))))
      pss_never)), ?_⟩)
  case len =>
    rintro M ss C' ⟨_, _, rfl, rfl, ⟨n, d, e2, rfl, ⟨hn, hw⟩, rfl⟩, rfl⟩ <;> rfl
  rintro M ss C' ⟨_, _, rfl, rfl, ⟨n, d, e2, rfl, ⟨hn, hw⟩, rfl⟩, rfl⟩ F L σ H D hE hL o
  try dsimp only [cxOf]
  have o2 := o
  refine q_drop0 (ev_need_length (ev_varD (d := .int n) rfl) (within_int hn)) (fun σ H o => ?_) o
  exact xq_drop (fun Q => x_call (EvA.cons (ev_varD (d := .int n) rfl) (EvA.cons (ev_varD (d := d) rfl) EvA.nil)) [] (List.nil_sublist _) ⟨[.int n, d], .place, rfl, rfl, ⟨_, _, rfl, hw, rfl⟩, rfl⟩ (fun H1 o1 => hE _ o1.fr (o1.mobs fun x hx => hx)) o)
def X_answers_toC (ds : List PyData) (x : Er) : Prop := ∃ (n t : Int) (d : PyData), ds = [.int n, .int t, d] ∧ ((1 ≤ n ∧ n ≤ 60) ∧ (1 ≤ t ∧ t ≤ n) ∧ badSt n d = true) ∧ x = .stands
theorem okX_answers_to_C {f : Addr} {fd : FuncData} (Fn : Fun K "answers_to" "answers_to" s_answers_to f fd) (B : Bl mg) {ce : CE} (YE : ErrsC K mg ce) (h_need_length : Has P w K mg base 2 "need_length" ["length"] (spP K R_need_length)) (h_need_place : Has P w K mg base 2 "need_place" ["length", "place"] (spP K R_need_place)) (hX_need_stands : HasX P w K mg base 20 "need_stands" ["length", "stands"] (spE K (XD ce X_need_standsA))) : FnOk P w K mg base (L2N.CX P w) 24 f fd ["length", "thing", "stands"] (spE K (XD ce X_answers_toC)) := by
  obtain ⟨_, _, G_need_length, g_need_length, k_need_length, b_need_length⟩ := h_need_length
  obtain ⟨_, _, G_need_place, g_need_place, k_need_place, b_need_place⟩ := h_need_place
  obtain ⟨_, _, GX_need_stands, gX_need_stands, kX_need_stands, bX_need_stands⟩ := hX_need_stands
  refine okE Fn sc_answers_to ?len (fun cdv A outer s H E hr => ⟨_, (pss_cons (ps_expr (pe_call G_need_length (hr.mono (by first | decide | omega)) (by rfl) g_need_length k_need_length b_need_length .nil pass0 (pa_cons (pv 0) pa_nil)))
      (pss_cons (ps_expr (pe_call G_need_place (hr.mono (by first | decide | omega)) (by rfl) g_need_place k_need_place b_need_place .nil pass0 (pa_cons (pv 0) (pa_cons (pv 1) pa_nil))))
      (pss_cons (ps_expr (pe_call GX_need_stands (hr.mono (by first | decide | omega)) (by rfl) gX_need_stands kX_need_stands bX_need_stands .nil passE (pa_cons (pv 0) (pa_cons (pv 2) pa_nil))))
      pss_never))), ?_⟩)
  case len =>
    rintro M ss C' ⟨_, _, rfl, rfl, ⟨n, t, d, rfl, ⟨hn, ht, hw⟩, rfl⟩, rfl⟩ <;> rfl
  rintro M ss C' ⟨_, _, rfl, rfl, ⟨n, t, d, rfl, ⟨hn, ht, hw⟩, rfl⟩, rfl⟩ F L σ H D hE hL o
  try dsimp only [cxOf]
  have o2 := o
  refine q_drop0 (ev_need_length (ev_varD (d := .int n) rfl) (within_int hn)) (fun σ H o => ?_) o
  refine q_drop0 (ev_need_place (ev_varD (d := .int n) rfl) (ev_varD (d := .int t) rfl) (within_int ht)) (fun σ H o => ?_) o
  exact xq_drop (fun Q => x_call (EvA.cons (ev_varD (d := .int n) rfl) (EvA.cons (ev_varD (d := d) rfl) EvA.nil)) [] (List.nil_sublist _) ⟨[.int n, d], .stands, rfl, rfl, ⟨_, _, rfl, hw, rfl⟩, rfl⟩ (fun H1 o1 => hE _ o1.fr (o1.mobs fun x hx => hx)) o)

theorem okX_answers_to (B : Bl mg) {ce : CE} (YE : ErrsC K mg ce) (T : Raw K mg "answers_to" "answers_to" s_answers_to) (hX_need_length : HasX P w K mg base 20 "need_length" ["length"] (spE K (XD ce X_need_lengthA))) (h_need_length : Has P w K mg base 2 "need_length" ["length"] (spP K R_need_length)) (hX_need_place : HasX P w K mg base 20 "need_place" ["length", "place"] (spE K (XD ce X_need_placeA))) (h_need_place : Has P w K mg base 2 "need_place" ["length", "place"] (spP K R_need_place)) (hX_need_stands : HasX P w K mg base 20 "need_stands" ["length", "stands"] (spE K (XD ce X_need_standsA))) : HasX P w K mg base 24 "answers_to" ["length", "thing", "stands"] (spE K (fun M ss C => XD ce X_answers_toA M ss C ∨ XD ce X_answers_toB M ss C ∨ XD ce X_answers_toC M ss C)) := by
  obtain ⟨f, fd, Fn, hg⟩ := T
  exact ⟨f, fd, (fnOk_xor ((okX_answers_to_A Fn B YE hX_need_length).mono (by decide)) (fnOk_xor ((okX_answers_to_B Fn B YE h_need_length hX_need_place).mono (by decide)) ((okX_answers_to_C Fn B YE h_need_length h_need_place hX_need_stands).mono (by decide)))), hg, Fn.kp, Fn.binds fun _ _ _ _ _ _ us hl => match us, hl with | [_, _, _], _ => rfl⟩
def X_can_lieA (ds : List PyData) (x : Er) : Prop := ∃ d e1 e2, ds = [d, e1, e2] ∧ within d 1 60 = false ∧ x = .length
theorem okX_can_lie_A {f : Addr} {fd : FuncData} (Fn : Fun K "can_lie" "can_lie" s_can_lie f fd) (B : Bl mg) {ce : CE} (YE : ErrsC K mg ce) (hX_need_length : HasX P w K mg base 20 "need_length" ["length"] (spE K (XD ce X_need_lengthA))) : FnOk P w K mg base (L2N.CX P w) 24 f fd ["length", "stands", "answers"] (spE K (XD ce X_can_lieA)) := by
  obtain ⟨_, _, GX_need_length, gX_need_length, kX_need_length, bX_need_length⟩ := hX_need_length
  refine okE Fn sc_can_lie ?len (fun cdv A outer s H E hr => ⟨_, (pss_cons (ps_expr (pe_call GX_need_length (hr.mono (by first | decide | omega)) (by rfl) gX_need_length kX_need_length bX_need_length .nil passE (pa_cons (pv 0) pa_nil)))
      pss_never), ?_⟩)
  case len =>
    rintro M ss C' ⟨_, _, rfl, rfl, ⟨d, e1, e2, rfl, hw, rfl⟩, rfl⟩ <;> rfl
  rintro M ss C' ⟨_, _, rfl, rfl, ⟨d, e1, e2, rfl, hw, rfl⟩, rfl⟩ F L σ H D hE hL o
  try dsimp only [cxOf]
  have o2 := o
  exact xq_drop (fun Q => x_call (EvA.cons (ev_varD (d := d) rfl) EvA.nil) [] (List.nil_sublist _) ⟨[d], .length, rfl, rfl, ⟨_, rfl, hw, rfl⟩, rfl⟩ (fun H1 o1 => hE _ o1.fr (o1.mobs fun x hx => hx)) o)
def X_can_lieB (ds : List PyData) (x : Er) : Prop := ∃ (n : Int) (d e2 : PyData), ds = [.int n, d, e2] ∧ ((1 ≤ n ∧ n ≤ 60) ∧ badSt n d = true) ∧ x = .stands
theorem okX_can_lie_B {f : Addr} {fd : FuncData} (Fn : Fun K "can_lie" "can_lie" s_can_lie f fd) (B : Bl mg) {ce : CE} (YE : ErrsC K mg ce) (h_need_length : Has P w K mg base 2 "need_length" ["length"] (spP K R_need_length)) (hX_need_stands : HasX P w K mg base 20 "need_stands" ["length", "stands"] (spE K (XD ce X_need_standsA))) : FnOk P w K mg base (L2N.CX P w) 24 f fd ["length", "stands", "answers"] (spE K (XD ce X_can_lieB)) := by
  obtain ⟨_, _, G_need_length, g_need_length, k_need_length, b_need_length⟩ := h_need_length
  obtain ⟨_, _, GX_need_stands, gX_need_stands, kX_need_stands, bX_need_stands⟩ := hX_need_stands
  refine okE Fn sc_can_lie ?len (fun cdv A outer s H E hr => ⟨_, (pss_cons (ps_expr (pe_call G_need_length (hr.mono (by first | decide | omega)) (by rfl) g_need_length k_need_length b_need_length .nil pass0 (pa_cons (pv 0) pa_nil)))
      (pss_cons (ps_expr (pe_call GX_need_stands (hr.mono (by first | decide | omega)) (by rfl) gX_need_stands kX_need_stands bX_need_stands .nil passE (pa_cons (pv 0) (pa_cons (pv 1) pa_nil))))
      pss_never)), ?_⟩)
  case len =>
    rintro M ss C' ⟨_, _, rfl, rfl, ⟨n, d, e2, rfl, ⟨hn, hw⟩, rfl⟩, rfl⟩ <;> rfl
  rintro M ss C' ⟨_, _, rfl, rfl, ⟨n, d, e2, rfl, ⟨hn, hw⟩, rfl⟩, rfl⟩ F L σ H D hE hL o
  try dsimp only [cxOf]
  have o2 := o
  refine q_drop0 (ev_need_length (ev_varD (d := .int n) rfl) (within_int hn)) (fun σ H o => ?_) o
  exact xq_drop (fun Q => x_call (EvA.cons (ev_varD (d := .int n) rfl) (EvA.cons (ev_varD (d := d) rfl) EvA.nil)) [] (List.nil_sublist _) ⟨[.int n, d], .stands, rfl, rfl, ⟨_, _, rfl, hw, rfl⟩, rfl⟩ (fun H1 o1 => hE _ o1.fr (o1.mobs fun x hx => hx)) o)
def X_can_lieC (ds : List PyData) (x : Er) : Prop := ∃ (n : Int) (xs : List Int) (d : PyData), ds = [.int n, dI xs, d] ∧ ((1 ≤ n ∧ n ≤ 60) ∧ stOk n xs ∧ (∃ y, X_need_answersA [dI xs, d] y ∨ X_need_answersB [dI xs, d] y)) ∧ x = .answers
theorem okX_can_lie_C {f : Addr} {fd : FuncData} (Fn : Fun K "can_lie" "can_lie" s_can_lie f fd) (B : Bl mg) {ce : CE} (YE : ErrsC K mg ce) (h_need_length : Has P w K mg base 2 "need_length" ["length"] (spP K R_need_length)) (h_need_stands : Has P w K mg base 2 "need_stands" ["length", "stands"] (spP K R_need_stands)) (hX_need_answers : HasX P w K mg base 20 "need_answers" ["stands", "answers"] (spE K (fun M ss C => XD ce X_need_answersA M ss C ∨ XD ce X_need_answersB M ss C))) : FnOk P w K mg base (L2N.CX P w) 24 f fd ["length", "stands", "answers"] (spE K (XD ce X_can_lieC)) := by
  obtain ⟨_, _, G_need_length, g_need_length, k_need_length, b_need_length⟩ := h_need_length
  obtain ⟨_, _, G_need_stands, g_need_stands, k_need_stands, b_need_stands⟩ := h_need_stands
  obtain ⟨_, _, GX_need_answers, gX_need_answers, kX_need_answers, bX_need_answers⟩ := hX_need_answers
  refine okE Fn sc_can_lie ?len (fun cdv A outer s H E hr => ⟨_, (pss_cons (ps_expr (pe_call G_need_length (hr.mono (by first | decide | omega)) (by rfl) g_need_length k_need_length b_need_length .nil pass0 (pa_cons (pv 0) pa_nil)))
      (pss_cons (ps_expr (pe_call G_need_stands (hr.mono (by first | decide | omega)) (by rfl) g_need_stands k_need_stands b_need_stands .nil pass0 (pa_cons (pv 0) (pa_cons (pv 1) pa_nil))))
      (pss_cons (ps_expr (pe_call GX_need_answers (hr.mono (by first | decide | omega)) (by rfl) gX_need_answers kX_need_answers bX_need_answers .nil passE (pa_cons (pv 1) (pa_cons (pv 2) pa_nil))))
      pss_never))), ?_⟩)
  case len =>
    rintro M ss C' ⟨_, _, rfl, rfl, ⟨n, xs, d, rfl, ⟨hn, hx, y, hw⟩, rfl⟩, rfl⟩ <;> rfl
  rintro M ss C' ⟨_, _, rfl, rfl, ⟨n, xs, d, rfl, ⟨hn, hx, y, hw⟩, rfl⟩, rfl⟩ F L σ H D hE hL o
  try dsimp only [cxOf]
  have o2 := o
  refine q_drop0 (ev_need_length (ev_varD (d := .int n) rfl) (within_int hn)) (fun σ H o => ?_) o
  refine q_drop0 (ev_need_stands (n := n) (xs := xs) (ev_varD rfl) (ev_varD rfl) hx) (fun σ H o => ?_) o
  rcases hw with hw | hw
  · exact xq_drop (fun Q => x_call (EvA.cons (ev_varD (d := dI xs) rfl) (EvA.cons (ev_varD (d := d) rfl) EvA.nil)) [] (List.nil_sublist _) (C := ce .answers) (.inl ⟨_, _, rfl, rfl, hw, by obtain ⟨_, _, _, _, rfl⟩ := hw; rfl⟩) (fun H1 o1 => hE _ o1.fr (o1.mobs fun x hx => hx)) o)
  · exact xq_drop (fun Q => x_call (EvA.cons (ev_varD (d := dI xs) rfl) (EvA.cons (ev_varD (d := d) rfl) EvA.nil)) [] (List.nil_sublist _) (C := ce .answers) (.inr ⟨_, _, rfl, rfl, hw, by obtain ⟨_, _, _, _, rfl⟩ := hw; rfl⟩) (fun H1 o1 => hE _ o1.fr (o1.mobs fun x hx => hx)) o)

theorem okX_can_lie (B : Bl mg) {ce : CE} (YE : ErrsC K mg ce) (T : Raw K mg "can_lie" "can_lie" s_can_lie) (hX_need_length : HasX P w K mg base 20 "need_length" ["length"] (spE K (XD ce X_need_lengthA))) (h_need_length : Has P w K mg base 2 "need_length" ["length"] (spP K R_need_length)) (hX_need_stands : HasX P w K mg base 20 "need_stands" ["length", "stands"] (spE K (XD ce X_need_standsA))) (h_need_stands : Has P w K mg base 2 "need_stands" ["length", "stands"] (spP K R_need_stands)) (hX_need_answers : HasX P w K mg base 20 "need_answers" ["stands", "answers"] (spE K (fun M ss C => XD ce X_need_answersA M ss C ∨ XD ce X_need_answersB M ss C))) : HasX P w K mg base 24 "can_lie" ["length", "stands", "answers"] (spE K (fun M ss C => XD ce X_can_lieA M ss C ∨ XD ce X_can_lieB M ss C ∨ XD ce X_can_lieC M ss C)) := by
  obtain ⟨f, fd, Fn, hg⟩ := T
  exact ⟨f, fd, (fnOk_xor ((okX_can_lie_A Fn B YE hX_need_length).mono (by decide)) (fnOk_xor ((okX_can_lie_B Fn B YE h_need_length hX_need_stands).mono (by decide)) ((okX_can_lie_C Fn B YE h_need_length h_need_stands hX_need_answers).mono (by decide)))), hg, Fn.kp, Fn.binds fun _ _ _ _ _ _ us hl => match us, hl with | [_, _, _], _ => rfl⟩
def X_fewest_wrongA (ds : List PyData) (x : Er) : Prop := ∃ d e1 e2, ds = [d, e1, e2] ∧ within d 1 60 = false ∧ x = .length
theorem okX_fewest_wrong_A {f : Addr} {fd : FuncData} (Fn : Fun K "fewest_wrong" "fewest_wrong" s_fewest_wrong f fd) (B : Bl mg) {ce : CE} (YE : ErrsC K mg ce) (hX_need_length : HasX P w K mg base 20 "need_length" ["length"] (spE K (XD ce X_need_lengthA))) : FnOk P w K mg base (L2N.CX P w) 24 f fd ["length", "stands", "answers"] (spE K (XD ce X_fewest_wrongA)) := by
  obtain ⟨_, _, GX_need_length, gX_need_length, kX_need_length, bX_need_length⟩ := hX_need_length
  refine okE Fn sc_fewest_wrong ?len (fun cdv A outer s H E hr => ⟨_, (pss_cons (ps_expr (pe_call GX_need_length (hr.mono (by first | decide | omega)) (by rfl) gX_need_length kX_need_length bX_need_length .nil passE (pa_cons (pv 0) pa_nil)))
      pss_never), ?_⟩)
  case len =>
    rintro M ss C' ⟨_, _, rfl, rfl, ⟨d, e1, e2, rfl, hw, rfl⟩, rfl⟩ <;> rfl
  rintro M ss C' ⟨_, _, rfl, rfl, ⟨d, e1, e2, rfl, hw, rfl⟩, rfl⟩ F L σ H D hE hL o
  try dsimp only [cxOf]
  have o2 := o
  exact xq_drop (fun Q => x_call (EvA.cons (ev_varD (d := d) rfl) EvA.nil) [] (List.nil_sublist _) ⟨[d], .length, rfl, rfl, ⟨_, rfl, hw, rfl⟩, rfl⟩ (fun H1 o1 => hE _ o1.fr (o1.mobs fun x hx => hx)) o)
def X_fewest_wrongB (ds : List PyData) (x : Er) : Prop := ∃ (n : Int) (d e2 : PyData), ds = [.int n, d, e2] ∧ ((1 ≤ n ∧ n ≤ 60) ∧ badSt n d = true) ∧ x = .stands
theorem okX_fewest_wrong_B {f : Addr} {fd : FuncData} (Fn : Fun K "fewest_wrong" "fewest_wrong" s_fewest_wrong f fd) (B : Bl mg) {ce : CE} (YE : ErrsC K mg ce) (h_need_length : Has P w K mg base 2 "need_length" ["length"] (spP K R_need_length)) (hX_need_stands : HasX P w K mg base 20 "need_stands" ["length", "stands"] (spE K (XD ce X_need_standsA))) : FnOk P w K mg base (L2N.CX P w) 24 f fd ["length", "stands", "answers"] (spE K (XD ce X_fewest_wrongB)) := by
  obtain ⟨_, _, G_need_length, g_need_length, k_need_length, b_need_length⟩ := h_need_length
  obtain ⟨_, _, GX_need_stands, gX_need_stands, kX_need_stands, bX_need_stands⟩ := hX_need_stands
  refine okE Fn sc_fewest_wrong ?len (fun cdv A outer s H E hr => ⟨_, (pss_cons (ps_expr (pe_call G_need_length (hr.mono (by first | decide | omega)) (by rfl) g_need_length k_need_length b_need_length .nil pass0 (pa_cons (pv 0) pa_nil)))
      (pss_cons (ps_expr (pe_call GX_need_stands (hr.mono (by first | decide | omega)) (by rfl) gX_need_stands kX_need_stands bX_need_stands .nil passE (pa_cons (pv 0) (pa_cons (pv 1) pa_nil))))
      pss_never)), ?_⟩)
  case len =>
    rintro M ss C' ⟨_, _, rfl, rfl, ⟨n, d, e2, rfl, ⟨hn, hw⟩, rfl⟩, rfl⟩ <;> rfl
  rintro M ss C' ⟨_, _, rfl, rfl, ⟨n, d, e2, rfl, ⟨hn, hw⟩, rfl⟩, rfl⟩ F L σ H D hE hL o
  try dsimp only [cxOf]
  have o2 := o
  refine q_drop0 (ev_need_length (ev_varD (d := .int n) rfl) (within_int hn)) (fun σ H o => ?_) o
  exact xq_drop (fun Q => x_call (EvA.cons (ev_varD (d := .int n) rfl) (EvA.cons (ev_varD (d := d) rfl) EvA.nil)) [] (List.nil_sublist _) ⟨[.int n, d], .stands, rfl, rfl, ⟨_, _, rfl, hw, rfl⟩, rfl⟩ (fun H1 o1 => hE _ o1.fr (o1.mobs fun x hx => hx)) o)
def X_fewest_wrongC (ds : List PyData) (x : Er) : Prop := ∃ (n : Int) (xs : List Int) (d : PyData), ds = [.int n, dI xs, d] ∧ ((1 ≤ n ∧ n ≤ 60) ∧ stOk n xs ∧ (∃ y, X_need_answersA [dI xs, d] y ∨ X_need_answersB [dI xs, d] y)) ∧ x = .answers
theorem okX_fewest_wrong_C {f : Addr} {fd : FuncData} (Fn : Fun K "fewest_wrong" "fewest_wrong" s_fewest_wrong f fd) (B : Bl mg) {ce : CE} (YE : ErrsC K mg ce) (h_need_length : Has P w K mg base 2 "need_length" ["length"] (spP K R_need_length)) (h_need_stands : Has P w K mg base 2 "need_stands" ["length", "stands"] (spP K R_need_stands)) (hX_need_answers : HasX P w K mg base 20 "need_answers" ["stands", "answers"] (spE K (fun M ss C => XD ce X_need_answersA M ss C ∨ XD ce X_need_answersB M ss C))) : FnOk P w K mg base (L2N.CX P w) 24 f fd ["length", "stands", "answers"] (spE K (XD ce X_fewest_wrongC)) := by
  obtain ⟨_, _, G_need_length, g_need_length, k_need_length, b_need_length⟩ := h_need_length
  obtain ⟨_, _, G_need_stands, g_need_stands, k_need_stands, b_need_stands⟩ := h_need_stands
  obtain ⟨_, _, GX_need_answers, gX_need_answers, kX_need_answers, bX_need_answers⟩ := hX_need_answers
  refine okE Fn sc_fewest_wrong ?len (fun cdv A outer s H E hr => ⟨_, (pss_cons (ps_expr (pe_call G_need_length (hr.mono (by first | decide | omega)) (by rfl) g_need_length k_need_length b_need_length .nil pass0 (pa_cons (pv 0) pa_nil)))
      (pss_cons (ps_expr (pe_call G_need_stands (hr.mono (by first | decide | omega)) (by rfl) g_need_stands k_need_stands b_need_stands .nil pass0 (pa_cons (pv 0) (pa_cons (pv 1) pa_nil))))
      (pss_cons (ps_expr (pe_call GX_need_answers (hr.mono (by first | decide | omega)) (by rfl) gX_need_answers kX_need_answers bX_need_answers .nil passE (pa_cons (pv 1) (pa_cons (pv 2) pa_nil))))
      pss_never))), ?_⟩)
  case len =>
    rintro M ss C' ⟨_, _, rfl, rfl, ⟨n, xs, d, rfl, ⟨hn, hx, y, hw⟩, rfl⟩, rfl⟩ <;> rfl
  rintro M ss C' ⟨_, _, rfl, rfl, ⟨n, xs, d, rfl, ⟨hn, hx, y, hw⟩, rfl⟩, rfl⟩ F L σ H D hE hL o
  try dsimp only [cxOf]
  have o2 := o
  refine q_drop0 (ev_need_length (ev_varD (d := .int n) rfl) (within_int hn)) (fun σ H o => ?_) o
  refine q_drop0 (ev_need_stands (n := n) (xs := xs) (ev_varD rfl) (ev_varD rfl) hx) (fun σ H o => ?_) o
  rcases hw with hw | hw
  · exact xq_drop (fun Q => x_call (EvA.cons (ev_varD (d := dI xs) rfl) (EvA.cons (ev_varD (d := d) rfl) EvA.nil)) [] (List.nil_sublist _) (C := ce .answers) (.inl ⟨_, _, rfl, rfl, hw, by obtain ⟨_, _, _, _, rfl⟩ := hw; rfl⟩) (fun H1 o1 => hE _ o1.fr (o1.mobs fun x hx => hx)) o)
  · exact xq_drop (fun Q => x_call (EvA.cons (ev_varD (d := dI xs) rfl) (EvA.cons (ev_varD (d := d) rfl) EvA.nil)) [] (List.nil_sublist _) (C := ce .answers) (.inr ⟨_, _, rfl, rfl, hw, by obtain ⟨_, _, _, _, rfl⟩ := hw; rfl⟩) (fun H1 o1 => hE _ o1.fr (o1.mobs fun x hx => hx)) o)

theorem okX_fewest_wrong (B : Bl mg) {ce : CE} (YE : ErrsC K mg ce) (T : Raw K mg "fewest_wrong" "fewest_wrong" s_fewest_wrong) (hX_need_length : HasX P w K mg base 20 "need_length" ["length"] (spE K (XD ce X_need_lengthA))) (h_need_length : Has P w K mg base 2 "need_length" ["length"] (spP K R_need_length)) (hX_need_stands : HasX P w K mg base 20 "need_stands" ["length", "stands"] (spE K (XD ce X_need_standsA))) (h_need_stands : Has P w K mg base 2 "need_stands" ["length", "stands"] (spP K R_need_stands)) (hX_need_answers : HasX P w K mg base 20 "need_answers" ["stands", "answers"] (spE K (fun M ss C => XD ce X_need_answersA M ss C ∨ XD ce X_need_answersB M ss C))) : HasX P w K mg base 24 "fewest_wrong" ["length", "stands", "answers"] (spE K (fun M ss C => XD ce X_fewest_wrongA M ss C ∨ XD ce X_fewest_wrongB M ss C ∨ XD ce X_fewest_wrongC M ss C)) := by
  obtain ⟨f, fd, Fn, hg⟩ := T
  exact ⟨f, fd, (fnOk_xor ((okX_fewest_wrong_A Fn B YE hX_need_length).mono (by decide)) (fnOk_xor ((okX_fewest_wrong_B Fn B YE h_need_length hX_need_stands).mono (by decide)) ((okX_fewest_wrong_C Fn B YE h_need_length h_need_stands hX_need_answers).mono (by decide)))), hg, Fn.kp, Fn.binds fun _ _ _ _ _ _ us hl => match us, hl with | [_, _, _], _ => rfl⟩
def X_can_lie_roundA (ds : List PyData) (x : Er) : Prop := ∃ d e1 e2, ds = [d, e1, e2] ∧ within d 1 60 = false ∧ x = .length
theorem okX_can_lie_round_A {f : Addr} {fd : FuncData} (Fn : Fun K "can_lie_round" "can_lie_round" s_can_lie_round f fd) (B : Bl mg) {ce : CE} (YE : ErrsC K mg ce) (hX_need_length : HasX P w K mg base 20 "need_length" ["length"] (spE K (XD ce X_need_lengthA))) : FnOk P w K mg base (L2N.CX P w) 24 f fd ["length", "stands", "answers"] (spE K (XD ce X_can_lie_roundA)) := by
  obtain ⟨_, _, GX_need_length, gX_need_length, kX_need_length, bX_need_length⟩ := hX_need_length
  refine okE Fn sc_can_lie_round ?len (fun cdv A outer s H E hr => ⟨_, (pss_cons (ps_expr (pe_call GX_need_length (hr.mono (by first | decide | omega)) (by rfl) gX_need_length kX_need_length bX_need_length .nil passE (pa_cons (pv 0) pa_nil)))
      pss_never), ?_⟩)
  case len =>
    rintro M ss C' ⟨_, _, rfl, rfl, ⟨d, e1, e2, rfl, hw, rfl⟩, rfl⟩ <;> rfl
  rintro M ss C' ⟨_, _, rfl, rfl, ⟨d, e1, e2, rfl, hw, rfl⟩, rfl⟩ F L σ H D hE hL o
  try dsimp only [cxOf]
  have o2 := o
  exact xq_drop (fun Q => x_call (EvA.cons (ev_varD (d := d) rfl) EvA.nil) [] (List.nil_sublist _) ⟨[d], .length, rfl, rfl, ⟨_, rfl, hw, rfl⟩, rfl⟩ (fun H1 o1 => hE _ o1.fr (o1.mobs fun x hx => hx)) o)
def X_can_lie_roundB (ds : List PyData) (x : Er) : Prop := ∃ (n : Int) (d e2 : PyData), ds = [.int n, d, e2] ∧ ((1 ≤ n ∧ n ≤ 60) ∧ badSt n d = true) ∧ x = .stands
theorem okX_can_lie_round_B {f : Addr} {fd : FuncData} (Fn : Fun K "can_lie_round" "can_lie_round" s_can_lie_round f fd) (B : Bl mg) {ce : CE} (YE : ErrsC K mg ce) (h_need_length : Has P w K mg base 2 "need_length" ["length"] (spP K R_need_length)) (hX_need_stands : HasX P w K mg base 20 "need_stands" ["length", "stands"] (spE K (XD ce X_need_standsA))) : FnOk P w K mg base (L2N.CX P w) 24 f fd ["length", "stands", "answers"] (spE K (XD ce X_can_lie_roundB)) := by
  obtain ⟨_, _, G_need_length, g_need_length, k_need_length, b_need_length⟩ := h_need_length
  obtain ⟨_, _, GX_need_stands, gX_need_stands, kX_need_stands, bX_need_stands⟩ := hX_need_stands
  refine okE Fn sc_can_lie_round ?len (fun cdv A outer s H E hr => ⟨_, (pss_cons (ps_expr (pe_call G_need_length (hr.mono (by first | decide | omega)) (by rfl) g_need_length k_need_length b_need_length .nil pass0 (pa_cons (pv 0) pa_nil)))
      (pss_cons (ps_expr (pe_call GX_need_stands (hr.mono (by first | decide | omega)) (by rfl) gX_need_stands kX_need_stands bX_need_stands .nil passE (pa_cons (pv 0) (pa_cons (pv 1) pa_nil))))
      pss_never)), ?_⟩)
  case len =>
    rintro M ss C' ⟨_, _, rfl, rfl, ⟨n, d, e2, rfl, ⟨hn, hw⟩, rfl⟩, rfl⟩ <;> rfl
  rintro M ss C' ⟨_, _, rfl, rfl, ⟨n, d, e2, rfl, ⟨hn, hw⟩, rfl⟩, rfl⟩ F L σ H D hE hL o
  try dsimp only [cxOf]
  have o2 := o
  refine q_drop0 (ev_need_length (ev_varD (d := .int n) rfl) (within_int hn)) (fun σ H o => ?_) o
  exact xq_drop (fun Q => x_call (EvA.cons (ev_varD (d := .int n) rfl) (EvA.cons (ev_varD (d := d) rfl) EvA.nil)) [] (List.nil_sublist _) ⟨[.int n, d], .stands, rfl, rfl, ⟨_, _, rfl, hw, rfl⟩, rfl⟩ (fun H1 o1 => hE _ o1.fr (o1.mobs fun x hx => hx)) o)
def X_can_lie_roundC (ds : List PyData) (x : Er) : Prop := ∃ (n : Int) (xs : List Int) (d : PyData), ds = [.int n, dI xs, d] ∧ ((1 ≤ n ∧ n ≤ 60) ∧ stOk n xs ∧ (∃ y, X_need_answersA [dI xs, d] y ∨ X_need_answersB [dI xs, d] y)) ∧ x = .answers
theorem okX_can_lie_round_C {f : Addr} {fd : FuncData} (Fn : Fun K "can_lie_round" "can_lie_round" s_can_lie_round f fd) (B : Bl mg) {ce : CE} (YE : ErrsC K mg ce) (h_need_length : Has P w K mg base 2 "need_length" ["length"] (spP K R_need_length)) (h_need_stands : Has P w K mg base 2 "need_stands" ["length", "stands"] (spP K R_need_stands)) (hX_need_answers : HasX P w K mg base 20 "need_answers" ["stands", "answers"] (spE K (fun M ss C => XD ce X_need_answersA M ss C ∨ XD ce X_need_answersB M ss C))) : FnOk P w K mg base (L2N.CX P w) 24 f fd ["length", "stands", "answers"] (spE K (XD ce X_can_lie_roundC)) := by
  obtain ⟨_, _, G_need_length, g_need_length, k_need_length, b_need_length⟩ := h_need_length
  obtain ⟨_, _, G_need_stands, g_need_stands, k_need_stands, b_need_stands⟩ := h_need_stands
  obtain ⟨_, _, GX_need_answers, gX_need_answers, kX_need_answers, bX_need_answers⟩ := hX_need_answers
  refine okE Fn sc_can_lie_round ?len (fun cdv A outer s H E hr => ⟨_, (pss_cons (ps_expr (pe_call G_need_length (hr.mono (by first | decide | omega)) (by rfl) g_need_length k_need_length b_need_length .nil pass0 (pa_cons (pv 0) pa_nil)))
      (pss_cons (ps_expr (pe_call G_need_stands (hr.mono (by first | decide | omega)) (by rfl) g_need_stands k_need_stands b_need_stands .nil pass0 (pa_cons (pv 0) (pa_cons (pv 1) pa_nil))))
      (pss_cons (ps_expr (pe_call GX_need_answers (hr.mono (by first | decide | omega)) (by rfl) gX_need_answers kX_need_answers bX_need_answers .nil passE (pa_cons (pv 1) (pa_cons (pv 2) pa_nil))))
      pss_never))), ?_⟩)
  case len =>
    rintro M ss C' ⟨_, _, rfl, rfl, ⟨n, xs, d, rfl, ⟨hn, hx, y, hw⟩, rfl⟩, rfl⟩ <;> rfl
  rintro M ss C' ⟨_, _, rfl, rfl, ⟨n, xs, d, rfl, ⟨hn, hx, y, hw⟩, rfl⟩, rfl⟩ F L σ H D hE hL o
  try dsimp only [cxOf]
  have o2 := o
  refine q_drop0 (ev_need_length (ev_varD (d := .int n) rfl) (within_int hn)) (fun σ H o => ?_) o
  refine q_drop0 (ev_need_stands (n := n) (xs := xs) (ev_varD rfl) (ev_varD rfl) hx) (fun σ H o => ?_) o
  rcases hw with hw | hw
  · exact xq_drop (fun Q => x_call (EvA.cons (ev_varD (d := dI xs) rfl) (EvA.cons (ev_varD (d := d) rfl) EvA.nil)) [] (List.nil_sublist _) (C := ce .answers) (.inl ⟨_, _, rfl, rfl, hw, by obtain ⟨_, _, _, _, rfl⟩ := hw; rfl⟩) (fun H1 o1 => hE _ o1.fr (o1.mobs fun x hx => hx)) o)
  · exact xq_drop (fun Q => x_call (EvA.cons (ev_varD (d := dI xs) rfl) (EvA.cons (ev_varD (d := d) rfl) EvA.nil)) [] (List.nil_sublist _) (C := ce .answers) (.inr ⟨_, _, rfl, rfl, hw, by obtain ⟨_, _, _, _, rfl⟩ := hw; rfl⟩) (fun H1 o1 => hE _ o1.fr (o1.mobs fun x hx => hx)) o)

theorem okX_can_lie_round (B : Bl mg) {ce : CE} (YE : ErrsC K mg ce) (T : Raw K mg "can_lie_round" "can_lie_round" s_can_lie_round) (hX_need_length : HasX P w K mg base 20 "need_length" ["length"] (spE K (XD ce X_need_lengthA))) (h_need_length : Has P w K mg base 2 "need_length" ["length"] (spP K R_need_length)) (hX_need_stands : HasX P w K mg base 20 "need_stands" ["length", "stands"] (spE K (XD ce X_need_standsA))) (h_need_stands : Has P w K mg base 2 "need_stands" ["length", "stands"] (spP K R_need_stands)) (hX_need_answers : HasX P w K mg base 20 "need_answers" ["stands", "answers"] (spE K (fun M ss C => XD ce X_need_answersA M ss C ∨ XD ce X_need_answersB M ss C))) : HasX P w K mg base 24 "can_lie_round" ["length", "stands", "answers"] (spE K (fun M ss C => XD ce X_can_lie_roundA M ss C ∨ XD ce X_can_lie_roundB M ss C ∨ XD ce X_can_lie_roundC M ss C)) := by
  obtain ⟨f, fd, Fn, hg⟩ := T
  exact ⟨f, fd, (fnOk_xor ((okX_can_lie_round_A Fn B YE hX_need_length).mono (by decide)) (fnOk_xor ((okX_can_lie_round_B Fn B YE h_need_length hX_need_stands).mono (by decide)) ((okX_can_lie_round_C Fn B YE h_need_length h_need_stands hX_need_answers).mono (by decide)))), hg, Fn.kp, Fn.binds fun _ _ _ _ _ _ us hl => match us, hl with | [_, _, _], _ => rfl⟩
def X_how_manyA (ds : List PyData) (x : Er) : Prop := ∃ d e1, ds = [d, e1] ∧ within d 1 60 = false ∧ x = .length
theorem okX_how_many_A {f : Addr} {fd : FuncData} (Fn : Fun K "how_many" "how_many" s_how_many f fd) (B : Bl mg) {ce : CE} (YE : ErrsC K mg ce) (hX_need_length : HasX P w K mg base 20 "need_length" ["length"] (spE K (XD ce X_need_lengthA))) : FnOk P w K mg base (L2N.CX P w) 24 f fd ["length", "stands"] (spE K (XD ce X_how_manyA)) := by
  obtain ⟨_, _, GX_need_length, gX_need_length, kX_need_length, bX_need_length⟩ := hX_need_length
  refine okE Fn sc_how_many ?len (fun cdv A outer s H E hr => ⟨_, (pss_cons (ps_expr (pe_call GX_need_length (hr.mono (by first | decide | omega)) (by rfl) gX_need_length kX_need_length bX_need_length .nil passE (pa_cons (pv 0) pa_nil)))
      pss_never), ?_⟩)
  case len =>
    rintro M ss C' ⟨_, _, rfl, rfl, ⟨d, e1, rfl, hw, rfl⟩, rfl⟩ <;> rfl
  rintro M ss C' ⟨_, _, rfl, rfl, ⟨d, e1, rfl, hw, rfl⟩, rfl⟩ F L σ H D hE hL o
  try dsimp only [cxOf]
  have o2 := o
  exact xq_drop (fun Q => x_call (EvA.cons (ev_varD (d := d) rfl) EvA.nil) [] (List.nil_sublist _) ⟨[d], .length, rfl, rfl, ⟨_, rfl, hw, rfl⟩, rfl⟩ (fun H1 o1 => hE _ o1.fr (o1.mobs fun x hx => hx)) o)
def X_how_manyB (ds : List PyData) (x : Er) : Prop := ∃ (n : Int) (d : PyData), ds = [.int n, d] ∧ ((1 ≤ n ∧ n ≤ 60) ∧ badSt n d = true) ∧ x = .stands
theorem okX_how_many_B {f : Addr} {fd : FuncData} (Fn : Fun K "how_many" "how_many" s_how_many f fd) (B : Bl mg) {ce : CE} (YE : ErrsC K mg ce) (h_need_length : Has P w K mg base 2 "need_length" ["length"] (spP K R_need_length)) (hX_need_stands : HasX P w K mg base 20 "need_stands" ["length", "stands"] (spE K (XD ce X_need_standsA))) : FnOk P w K mg base (L2N.CX P w) 24 f fd ["length", "stands"] (spE K (XD ce X_how_manyB)) := by
  obtain ⟨_, _, G_need_length, g_need_length, k_need_length, b_need_length⟩ := h_need_length
  obtain ⟨_, _, GX_need_stands, gX_need_stands, kX_need_stands, bX_need_stands⟩ := hX_need_stands
  refine okE Fn sc_how_many ?len (fun cdv A outer s H E hr => ⟨_, (pss_cons (ps_expr (pe_call G_need_length (hr.mono (by first | decide | omega)) (by rfl) g_need_length k_need_length b_need_length .nil pass0 (pa_cons (pv 0) pa_nil)))
      (pss_cons (ps_expr (pe_call GX_need_stands (hr.mono (by first | decide | omega)) (by rfl) gX_need_stands kX_need_stands bX_need_stands .nil passE (pa_cons (pv 0) (pa_cons (pv 1) pa_nil))))
      pss_never)), ?_⟩)
  case len =>
    rintro M ss C' ⟨_, _, rfl, rfl, ⟨n, d, rfl, ⟨hn, hw⟩, rfl⟩, rfl⟩ <;> rfl
  rintro M ss C' ⟨_, _, rfl, rfl, ⟨n, d, rfl, ⟨hn, hw⟩, rfl⟩, rfl⟩ F L σ H D hE hL o
  try dsimp only [cxOf]
  have o2 := o
  refine q_drop0 (ev_need_length (ev_varD (d := .int n) rfl) (within_int hn)) (fun σ H o => ?_) o
  exact xq_drop (fun Q => x_call (EvA.cons (ev_varD (d := .int n) rfl) (EvA.cons (ev_varD (d := d) rfl) EvA.nil)) [] (List.nil_sublist _) ⟨[.int n, d], .stands, rfl, rfl, ⟨_, _, rfl, hw, rfl⟩, rfl⟩ (fun H1 o1 => hE _ o1.fr (o1.mobs fun x hx => hx)) o)

theorem okX_how_many (B : Bl mg) {ce : CE} (YE : ErrsC K mg ce) (T : Raw K mg "how_many" "how_many" s_how_many) (hX_need_length : HasX P w K mg base 20 "need_length" ["length"] (spE K (XD ce X_need_lengthA))) (h_need_length : Has P w K mg base 2 "need_length" ["length"] (spP K R_need_length)) (hX_need_stands : HasX P w K mg base 20 "need_stands" ["length", "stands"] (spE K (XD ce X_need_standsA))) : HasX P w K mg base 24 "how_many" ["length", "stands"] (spE K (fun M ss C => XD ce X_how_manyA M ss C ∨ XD ce X_how_manyB M ss C)) := by
  obtain ⟨f, fd, Fn, hg⟩ := T
  exact ⟨f, fd, (fnOk_xor ((okX_how_many_A Fn B YE hX_need_length).mono (by decide)) ((okX_how_many_B Fn B YE h_need_length hX_need_stands).mono (by decide))), hg, Fn.kp, Fn.binds fun _ _ _ _ _ _ us hl => match us, hl with | [_, _], _ => rfl⟩
def X_alikeA (ds : List PyData) (x : Er) : Prop := ∃ d e1, ds = [d, e1] ∧ within d 1 60 = false ∧ x = .length
theorem okX_alike_A {f : Addr} {fd : FuncData} (Fn : Fun K "alike" "alike" s_alike f fd) (B : Bl mg) {ce : CE} (YE : ErrsC K mg ce) (hX_need_length : HasX P w K mg base 20 "need_length" ["length"] (spE K (XD ce X_need_lengthA))) : FnOk P w K mg base (L2N.CX P w) 24 f fd ["length", "stands"] (spE K (XD ce X_alikeA)) := by
  obtain ⟨_, _, GX_need_length, gX_need_length, kX_need_length, bX_need_length⟩ := hX_need_length
  refine okE Fn sc_alike ?len (fun cdv A outer s H E hr => ⟨_, (pss_cons (ps_expr (pe_call GX_need_length (hr.mono (by first | decide | omega)) (by rfl) gX_need_length kX_need_length bX_need_length .nil passE (pa_cons (pv 0) pa_nil)))
      pss_never), ?_⟩)
  case len =>
    rintro M ss C' ⟨_, _, rfl, rfl, ⟨d, e1, rfl, hw, rfl⟩, rfl⟩ <;> rfl
  rintro M ss C' ⟨_, _, rfl, rfl, ⟨d, e1, rfl, hw, rfl⟩, rfl⟩ F L σ H D hE hL o
  try dsimp only [cxOf]
  have o2 := o
  exact xq_drop (fun Q => x_call (EvA.cons (ev_varD (d := d) rfl) EvA.nil) [] (List.nil_sublist _) ⟨[d], .length, rfl, rfl, ⟨_, rfl, hw, rfl⟩, rfl⟩ (fun H1 o1 => hE _ o1.fr (o1.mobs fun x hx => hx)) o)
def X_alikeB (ds : List PyData) (x : Er) : Prop := ∃ (n : Int) (d : PyData), ds = [.int n, d] ∧ ((1 ≤ n ∧ n ≤ 60) ∧ badSt n d = true) ∧ x = .stands
theorem okX_alike_B {f : Addr} {fd : FuncData} (Fn : Fun K "alike" "alike" s_alike f fd) (B : Bl mg) {ce : CE} (YE : ErrsC K mg ce) (h_need_length : Has P w K mg base 2 "need_length" ["length"] (spP K R_need_length)) (hX_need_stands : HasX P w K mg base 20 "need_stands" ["length", "stands"] (spE K (XD ce X_need_standsA))) : FnOk P w K mg base (L2N.CX P w) 24 f fd ["length", "stands"] (spE K (XD ce X_alikeB)) := by
  obtain ⟨_, _, G_need_length, g_need_length, k_need_length, b_need_length⟩ := h_need_length
  obtain ⟨_, _, GX_need_stands, gX_need_stands, kX_need_stands, bX_need_stands⟩ := hX_need_stands
  refine okE Fn sc_alike ?len (fun cdv A outer s H E hr => ⟨_, (pss_cons (ps_expr (pe_call G_need_length (hr.mono (by first | decide | omega)) (by rfl) g_need_length k_need_length b_need_length .nil pass0 (pa_cons (pv 0) pa_nil)))
      (pss_cons (ps_expr (pe_call GX_need_stands (hr.mono (by first | decide | omega)) (by rfl) gX_need_stands kX_need_stands bX_need_stands .nil passE (pa_cons (pv 0) (pa_cons (pv 1) pa_nil))))
      pss_never)), ?_⟩)
  case len =>
    rintro M ss C' ⟨_, _, rfl, rfl, ⟨n, d, rfl, ⟨hn, hw⟩, rfl⟩, rfl⟩ <;> rfl
  rintro M ss C' ⟨_, _, rfl, rfl, ⟨n, d, rfl, ⟨hn, hw⟩, rfl⟩, rfl⟩ F L σ H D hE hL o
  try dsimp only [cxOf]
  have o2 := o
  refine q_drop0 (ev_need_length (ev_varD (d := .int n) rfl) (within_int hn)) (fun σ H o => ?_) o
  exact xq_drop (fun Q => x_call (EvA.cons (ev_varD (d := .int n) rfl) (EvA.cons (ev_varD (d := d) rfl) EvA.nil)) [] (List.nil_sublist _) ⟨[.int n, d], .stands, rfl, rfl, ⟨_, _, rfl, hw, rfl⟩, rfl⟩ (fun H1 o1 => hE _ o1.fr (o1.mobs fun x hx => hx)) o)

theorem okX_alike (B : Bl mg) {ce : CE} (YE : ErrsC K mg ce) (T : Raw K mg "alike" "alike" s_alike) (hX_need_length : HasX P w K mg base 20 "need_length" ["length"] (spE K (XD ce X_need_lengthA))) (h_need_length : Has P w K mg base 2 "need_length" ["length"] (spP K R_need_length)) (hX_need_stands : HasX P w K mg base 20 "need_stands" ["length", "stands"] (spE K (XD ce X_need_standsA))) : HasX P w K mg base 24 "alike" ["length", "stands"] (spE K (fun M ss C => XD ce X_alikeA M ss C ∨ XD ce X_alikeB M ss C)) := by
  obtain ⟨f, fd, Fn, hg⟩ := T
  exact ⟨f, fd, (fnOk_xor ((okX_alike_A Fn B YE hX_need_length).mono (by decide)) ((okX_alike_B Fn B YE h_need_length hX_need_stands).mono (by decide))), hg, Fn.kp, Fn.binds fun _ _ _ _ _ _ us hl => match us, hl with | [_, _], _ => rfl⟩
def X_how_many_roundA (ds : List PyData) (x : Er) : Prop := ∃ d e1, ds = [d, e1] ∧ within d 1 60 = false ∧ x = .length
theorem okX_how_many_round_A {f : Addr} {fd : FuncData} (Fn : Fun K "how_many_round" "how_many_round" s_how_many_round f fd) (B : Bl mg) {ce : CE} (YE : ErrsC K mg ce) (hX_need_length : HasX P w K mg base 20 "need_length" ["length"] (spE K (XD ce X_need_lengthA))) : FnOk P w K mg base (L2N.CX P w) 24 f fd ["length", "stands"] (spE K (XD ce X_how_many_roundA)) := by
  obtain ⟨_, _, GX_need_length, gX_need_length, kX_need_length, bX_need_length⟩ := hX_need_length
  refine okE Fn sc_how_many_round ?len (fun cdv A outer s H E hr => ⟨_, (pss_cons (ps_expr (pe_call GX_need_length (hr.mono (by first | decide | omega)) (by rfl) gX_need_length kX_need_length bX_need_length .nil passE (pa_cons (pv 0) pa_nil)))
      pss_never), ?_⟩)
  case len =>
    rintro M ss C' ⟨_, _, rfl, rfl, ⟨d, e1, rfl, hw, rfl⟩, rfl⟩ <;> rfl
  rintro M ss C' ⟨_, _, rfl, rfl, ⟨d, e1, rfl, hw, rfl⟩, rfl⟩ F L σ H D hE hL o
  try dsimp only [cxOf]
  have o2 := o
  exact xq_drop (fun Q => x_call (EvA.cons (ev_varD (d := d) rfl) EvA.nil) [] (List.nil_sublist _) ⟨[d], .length, rfl, rfl, ⟨_, rfl, hw, rfl⟩, rfl⟩ (fun H1 o1 => hE _ o1.fr (o1.mobs fun x hx => hx)) o)
def X_how_many_roundB (ds : List PyData) (x : Er) : Prop := ∃ (n : Int) (d : PyData), ds = [.int n, d] ∧ ((1 ≤ n ∧ n ≤ 60) ∧ badSt n d = true) ∧ x = .stands
theorem okX_how_many_round_B {f : Addr} {fd : FuncData} (Fn : Fun K "how_many_round" "how_many_round" s_how_many_round f fd) (B : Bl mg) {ce : CE} (YE : ErrsC K mg ce) (h_need_length : Has P w K mg base 2 "need_length" ["length"] (spP K R_need_length)) (hX_need_stands : HasX P w K mg base 20 "need_stands" ["length", "stands"] (spE K (XD ce X_need_standsA))) : FnOk P w K mg base (L2N.CX P w) 24 f fd ["length", "stands"] (spE K (XD ce X_how_many_roundB)) := by
  obtain ⟨_, _, G_need_length, g_need_length, k_need_length, b_need_length⟩ := h_need_length
  obtain ⟨_, _, GX_need_stands, gX_need_stands, kX_need_stands, bX_need_stands⟩ := hX_need_stands
  refine okE Fn sc_how_many_round ?len (fun cdv A outer s H E hr => ⟨_, (pss_cons (ps_expr (pe_call G_need_length (hr.mono (by first | decide | omega)) (by rfl) g_need_length k_need_length b_need_length .nil pass0 (pa_cons (pv 0) pa_nil)))
      (pss_cons (ps_expr (pe_call GX_need_stands (hr.mono (by first | decide | omega)) (by rfl) gX_need_stands kX_need_stands bX_need_stands .nil passE (pa_cons (pv 0) (pa_cons (pv 1) pa_nil))))
      pss_never)), ?_⟩)
  case len =>
    rintro M ss C' ⟨_, _, rfl, rfl, ⟨n, d, rfl, ⟨hn, hw⟩, rfl⟩, rfl⟩ <;> rfl
  rintro M ss C' ⟨_, _, rfl, rfl, ⟨n, d, rfl, ⟨hn, hw⟩, rfl⟩, rfl⟩ F L σ H D hE hL o
  try dsimp only [cxOf]
  have o2 := o
  refine q_drop0 (ev_need_length (ev_varD (d := .int n) rfl) (within_int hn)) (fun σ H o => ?_) o
  exact xq_drop (fun Q => x_call (EvA.cons (ev_varD (d := .int n) rfl) (EvA.cons (ev_varD (d := d) rfl) EvA.nil)) [] (List.nil_sublist _) ⟨[.int n, d], .stands, rfl, rfl, ⟨_, _, rfl, hw, rfl⟩, rfl⟩ (fun H1 o1 => hE _ o1.fr (o1.mobs fun x hx => hx)) o)

theorem okX_how_many_round (B : Bl mg) {ce : CE} (YE : ErrsC K mg ce) (T : Raw K mg "how_many_round" "how_many_round" s_how_many_round) (hX_need_length : HasX P w K mg base 20 "need_length" ["length"] (spE K (XD ce X_need_lengthA))) (h_need_length : Has P w K mg base 2 "need_length" ["length"] (spP K R_need_length)) (hX_need_stands : HasX P w K mg base 20 "need_stands" ["length", "stands"] (spE K (XD ce X_need_standsA))) : HasX P w K mg base 24 "how_many_round" ["length", "stands"] (spE K (fun M ss C => XD ce X_how_many_roundA M ss C ∨ XD ce X_how_many_roundB M ss C)) := by
  obtain ⟨f, fd, Fn, hg⟩ := T
  exact ⟨f, fd, (fnOk_xor ((okX_how_many_round_A Fn B YE hX_need_length).mono (by decide)) ((okX_how_many_round_B Fn B YE h_need_length hX_need_stands).mono (by decide))), hg, Fn.kp, Fn.binds fun _ _ _ _ _ _ us hl => match us, hl with | [_, _], _ => rfl⟩
def X_fewest_aheadA (ds : List PyData) (x : Er) : Prop := ∃ d, ds = [d] ∧ within d 1 60 = false ∧ x = .length
theorem okX_fewest_ahead_A {f : Addr} {fd : FuncData} (Fn : Fun K "fewest_ahead" "fewest_ahead" s_fewest_ahead f fd) (B : Bl mg) {ce : CE} (YE : ErrsC K mg ce) (hX_need_length : HasX P w K mg base 20 "need_length" ["length"] (spE K (XD ce X_need_lengthA))) : FnOk P w K mg base (L2N.CX P w) 24 f fd ["length"] (spE K (XD ce X_fewest_aheadA)) := by
  obtain ⟨_, _, GX_need_length, gX_need_length, kX_need_length, bX_need_length⟩ := hX_need_length
  refine okE Fn sc_fewest_ahead ?len (fun cdv A outer s H E hr => ⟨_, (pss_cons (ps_expr (pe_call GX_need_length (hr.mono (by first | decide | omega)) (by rfl) gX_need_length kX_need_length bX_need_length .nil passE (pa_cons (pv 0) pa_nil)))
      pss_never), ?_⟩)
  case len =>
    rintro M ss C' ⟨_, _, rfl, rfl, ⟨d, rfl, hw, rfl⟩, rfl⟩ <;> rfl
  rintro M ss C' ⟨_, _, rfl, rfl, ⟨d, rfl, hw, rfl⟩, rfl⟩ F L σ H D hE hL o
  try dsimp only [cxOf]
  have o2 := o
  exact xq_drop (fun Q => x_call (EvA.cons (ev_varD (d := d) rfl) EvA.nil) [] (List.nil_sublist _) ⟨[d], .length, rfl, rfl, ⟨_, rfl, hw, rfl⟩, rfl⟩ (fun H1 o1 => hE _ o1.fr (o1.mobs fun x hx => hx)) o)

theorem okX_fewest_ahead (B : Bl mg) {ce : CE} (YE : ErrsC K mg ce) (T : Raw K mg "fewest_ahead" "fewest_ahead" s_fewest_ahead) (hX_need_length : HasX P w K mg base 20 "need_length" ["length"] (spE K (XD ce X_need_lengthA))) : HasX P w K mg base 24 "fewest_ahead" ["length"] (spE K (XD ce X_fewest_aheadA)) := by
  obtain ⟨f, fd, Fn, hg⟩ := T
  exact ⟨f, fd, ((okX_fewest_ahead_A Fn B YE hX_need_length).mono (by decide)), hg, Fn.kp, Fn.binds fun _ _ _ _ _ _ us hl => match us, hl with | [_], _ => rfl⟩
def X_stands_aheadA (ds : List PyData) (x : Er) : Prop := ∃ d, ds = [d] ∧ within d 1 60 = false ∧ x = .length
theorem okX_stands_ahead_A {f : Addr} {fd : FuncData} (Fn : Fun K "stands_ahead" "stands_ahead" s_stands_ahead f fd) (B : Bl mg) {ce : CE} (YE : ErrsC K mg ce) (hX_need_length : HasX P w K mg base 20 "need_length" ["length"] (spE K (XD ce X_need_lengthA))) : FnOk P w K mg base (L2N.CX P w) 24 f fd ["length"] (spE K (XD ce X_stands_aheadA)) := by
  obtain ⟨_, _, GX_need_length, gX_need_length, kX_need_length, bX_need_length⟩ := hX_need_length
  refine okE Fn sc_stands_ahead ?len (fun cdv A outer s H E hr => ⟨_, (pss_cons (ps_expr (pe_call GX_need_length (hr.mono (by first | decide | omega)) (by rfl) gX_need_length kX_need_length bX_need_length .nil passE (pa_cons (pv 0) pa_nil)))
      pss_never), ?_⟩)
  case len =>
    rintro M ss C' ⟨_, _, rfl, rfl, ⟨d, rfl, hw, rfl⟩, rfl⟩ <;> rfl
  rintro M ss C' ⟨_, _, rfl, rfl, ⟨d, rfl, hw, rfl⟩, rfl⟩ F L σ H D hE hL o
  try dsimp only [cxOf]
  have o2 := o
  exact xq_drop (fun Q => x_call (EvA.cons (ev_varD (d := d) rfl) EvA.nil) [] (List.nil_sublist _) ⟨[d], .length, rfl, rfl, ⟨_, rfl, hw, rfl⟩, rfl⟩ (fun H1 o1 => hE _ o1.fr (o1.mobs fun x hx => hx)) o)

theorem okX_stands_ahead (B : Bl mg) {ce : CE} (YE : ErrsC K mg ce) (T : Raw K mg "stands_ahead" "stands_ahead" s_stands_ahead) (hX_need_length : HasX P w K mg base 20 "need_length" ["length"] (spE K (XD ce X_need_lengthA))) : HasX P w K mg base 24 "stands_ahead" ["length"] (spE K (XD ce X_stands_aheadA)) := by
  obtain ⟨f, fd, Fn, hg⟩ := T
  exact ⟨f, fd, ((okX_stands_ahead_A Fn B YE hX_need_length).mono (by decide)), hg, Fn.kp, Fn.binds fun _ _ _ _ _ _ us hl => match us, hl with | [_], _ => rfl⟩
/-! the least costs of finding: the class's methods -/
structure PlansC (K : PySem.W.Frag) (mg : Str → Option Value) (C : Addr) : Prop where
  cl : Cls K C
  nL : NoAttr K C "length"
  nB : NoAttr K C "by_steps"
  nK : NoAttr K C "known"
  g : mg "Plans" = some (.ref C)
abbrev plF (n : Nat) (b : Bool) (q : Addr) : List (Str × Sl) := [("length", .dat (.int n)), ("by_steps", .dat (.bool b)), ("known", .loc (.ref q))]
abbrev plO (C : Addr) (n : Nat) (b : Bool) (q : Addr) : MO := .ins C (plF n b q)
def tabD (b : Bool) (n : Nat) (lo hi : Int) : PyData := .list (((List.range n).map fun (k : Nat) => Bst b n lo hi (1 + (k : Int))).map PyData.int)
def Gd (b : Bool) (n : Nat) : List (List Key × PyData) → Prop := fun kvs => (kvs.map (·.1)).Nodup ∧ ∀ e ∈ kvs, ∃ lo hi : Int, e.1 = [.inl lo, .inl hi] ∧ 1 ≤ lo ∧ lo ≤ hi ∧ hi ≤ n ∧ e.2 = tabD b n lo hi
abbrev plM (C : Addr) (n : Nat) (b : Bool) (p q : Addr) : Ms := [(p, plO C n b q), (q, .dP (Gd b n))]
abbrev dT2 (a b : Int) : PyData := .tuple [.int a, .int b]
theorem dT2_key (a b : Int) : dT2 a b = tupK [.inl a, .inl b] := rfl
abbrev sLen : Str := "length"
abbrev sBy : Str := "by_steps"
abbrev sKn : Str := "known"
theorem kLB : ¬ (sLen = sBy) := by decide +kernel
theorem kLK : ¬ (sLen = sKn) := by decide +kernel
theorem kBK : ¬ (sBy = sKn) := by decide +kernel
theorem pl_put1 (a b : Sl) : putS sBy b [(sLen, a)] = [(sLen, a), (sBy, b)] := by
  show (if sLen = sBy then _ else (sLen, a) :: [(sBy, b)]) = _
  rw [if_neg kLB]
theorem pl_put2 (a b c : Sl) : putS sKn c [(sLen, a), (sBy, b)] = [(sLen, a), (sBy, b), (sKn, c)] := by
  show (if sLen = sKn then _ else (sLen, a) :: (if sBy = sKn then _ else (sBy, b) :: [(sKn, c)])) = _
  rw [if_neg kLK, if_neg kBK]
theorem pl_len (n : Nat) (b : Bool) (q : Addr) : (plF n b q).lookup sLen = some (.dat (.int n)) := by
  rw [List.lookup_cons, show (sLen == "length") = true by decide +kernel]
theorem pl_by (n : Nat) (b : Bool) (q : Addr) : (plF n b q).lookup sBy = some (.dat (.bool b)) := by
  rw [List.lookup_cons, show (sBy == "length") = false by decide +kernel]
  dsimp only
  rw [List.lookup_cons, show (sBy == "by_steps") = true by decide +kernel]
theorem pl_kn (n : Nat) (b : Bool) (q : Addr) : (plF n b q).lookup sKn = some (.loc (.ref q)) := by
  rw [List.lookup_cons, show (sKn == "length") = false by decide +kernel]
  dsimp only
  rw [List.lookup_cons, show (sKn == "by_steps") = false by decide +kernel]
  dsimp only
  rw [List.lookup_cons, show (sKn == "known") = true by decide +kernel]
theorem pl_no (n : Nat) (b : Bool) (q : Addr) {m : Str} (h : m ∈ (["cost", "parts", "with_news", "table", "best", "first_move"] : List Str)) : (plF n b q).lookup m = none := by
  have g : (m == "length") = false ∧ (m == "by_steps") = false ∧ (m == "known") = false := by
    revert h; revert m; decide +kernel
  rw [List.lookup_cons, g.1]; dsimp only
  rw [List.lookup_cons, g.2.1]; dsimp only
  rw [List.lookup_cons, g.2.2]; rfl
theorem two_sub {x y : Addr × MO} {Mr : Ms} : [x, y].Sublist (x :: y :: Mr) := ((List.nil_sublist Mr).cons₂ y).cons₂ x
section
variable {K : PySem.W.Frag} {mg : Str → Option Value} {C p q : Addr} {n : Nat} {b : Bool} {ρ : List Sl} {M1 Mr : Ms} {ta tb tc td : TE} {x l lo hi : Int} {E : XK}
theorem ev_plLen (Y : PlansC K mg C) (ha : Ev K ta ρ M1 (.loc (.ref p)) M1) (hp : (p, plO C n b q) ∈ M1) : Ev K (tFld K ta "length") ρ M1 (.dat (.int n)) M1 := ev_fld ha hp Y.cl Y.nL (pl_len n b q)
theorem ev_plBy (Y : PlansC K mg C) (ha : Ev K ta ρ M1 (.loc (.ref p)) M1) (hp : (p, plO C n b q) ∈ M1) : Ev K (tFld K ta "by_steps") ρ M1 (.dat (.bool b)) M1 := ev_fld ha hp Y.cl Y.nB (pl_by n b q)
theorem ev_plKn (Y : PlansC K mg C) (ha : Ev K ta ρ M1 (.loc (.ref p)) M1) (hp : (p, plO C n b q) ∈ M1) : Ev K (tFld K ta "known") ρ M1 (.loc (.ref q)) M1 := ev_fld ha hp Y.cl Y.nK (pl_kn n b q)
/-- a method that looks only -/
theorem ev_plM {R : Ms → List Sl → PyData → Ms → Prop} {m : Str} {tr : TA} {ss : List Sl} {r : PyData} (hm : m ∈ (["cost", "parts", "with_news", "table", "best", "first_move"] : List Str)) (ha : Ev K ta ρ ((p, plO C n b q) :: (q, .dP (Gd b n)) :: Mr) (.loc (.ref p)) ((p, plO C n b q) :: (q, .dP (Gd b n)) :: Mr))
    (hr : EvA K tr ρ ((p, plO C n b q) :: (q, .dP (Gd b n)) :: Mr) ss ((p, plO C n b q) :: (q, .dP (Gd b n)) :: Mr)) (hR : R (plM C n b p q) (.loc (.ref p) :: ss) r (plM C n b p q)) :
    Ev K (tMeth C m (spMs K R) [] E ta tr) ρ ((p, plO C n b q) :: (q, .dP (Gd b n)) :: Mr) (.dat r) ((p, plO C n b q) :: (q, .dP (Gd b n)) :: Mr) :=
  ev_methMs ha List.mem_cons_self (pl_no n b q hm) hr (plM C n b p q) (plM C n b p q) rfl (fun nd => Sw.same two_sub nd) hR
end
def R_init (ds : List PyData) (fO : Addr → List (Str × Sl)) (qO : MO) : Prop := ∃ (n : Nat) (b : Bool), ds = [.int n, .bool b] ∧ fO = plF n b ∧ qO = .dP (Gd b n)
abbrev s_Plans___init__ : Stmt := inClass (topS 38) 0
theorem sc_Plans___init__ : FnScope ["self", "length", "by_steps"] ["self", "length", "by_steps"] (defScope s_Plans___init__) := ⟨rfl, rfl, rfl, by decide +kernel, rfl, by decide +kernel, by decide +kernel⟩
theorem ok_Plans___init__ {C : Addr} (Y : PlansC K mg C) (T : RawI K C "Plans.__init__" s_Plans___init__) (B : Bl mg) : HasI P w K mg base C 1 ["self", "length", "by_steps"] (spI K C R_init) := by
  have c_Plans := Y.cl
  have g_Plans := Y.g
  obtain ⟨f, fd, Fn, Mt⟩ := T
  refine ⟨f, fd, okI Fn sc_Plans___init__ ?len (fun cdv A outer s H E hr => ⟨_, (pss_cons (ps_fld (pv 0) (pv 1) rfl)
      (pss_cons (ps_fld (pv 0) (pv 2) rfl)
      (pss_one (ps_fld (pv 0) pe_dnewT rfl)))), ?_⟩), Mt, Fn.binds fun _ _ _ _ _ _ us hl => match us, hl with | [_, _, _], _ => rfl⟩
  case len =>
    rintro ds fO qO ⟨n, b, rfl, rfl, rfl⟩; rfl
  rintro ds fO qO ⟨n, b, rfl, rfl, rfl⟩ F L p σ H D hnx hp o
  try dsimp only [cxOf]
  replace o : Ok K F L σ H [.loc (.ref p), .dat (.int n), .dat (.bool b)] [(p, .ins C [])] := o
  refine q_fld (j := 0) (ev_varD rfl) (ev_varL rfl) rfl Y.cl Y.nL (by decide) (fun H o => ?_) o
  refine q_fld (j := 0) (ev_varD rfl) (ev_varL rfl) rfl Y.cl Y.nB (by simp [putS]) (fun H o => ?_) o
  refine s_fldNew (j := 0) nw_dT (fun q => ev_varL rfl) rfl Y.cl Y.nK (by simp [putS]; split <;> simp) (fun q H o => ?_) o
  have e : ([(p, MO.ins C (putS "by_steps" (.dat (.bool b)) (putS "length" (.dat (.int n)) [])))] ++ [(q, MO.dT [])]).set 0 (p, .ins C (putS "known" (.loc (.ref q)) (putS "by_steps" (.dat (.bool b)) (putS "length" (.dat (.int n)) [])))) = [(p, plO C n b q), (q, .dT [])] := by
    show [(p, MO.ins C (putS sKn (.loc (.ref q)) (putS sBy (.dat (.bool b)) [(sLen, .dat (.int n))]))), (q, .dT [])] = _
    rw [pl_put1, pl_put2]
  replace o : Ok K F L σ H [.loc (.ref p), .dat (.int n), .dat (.bool b)] [(p, plO C n b q), (q, .dT [])] := e ▸ o
  exact hnx q _ _ (o.closeP (j := 1) rfl ⟨List.nodup_nil, fun e he => nomatch he⟩)
def R_cost (C : Addr) (M : Ms) (ss : List Sl) (r : PyData) (M' : Ms) : Prop := ∃ (p q : Addr) (n : Nat) (b : Bool) (x l : Int), M = plM C n b p q ∧ M' = plM C n b p q ∧ ss = [.loc (.ref p), .dat (.int x), .dat (.int l)] ∧ r = .int (costOf b x l)
theorem ev_plCost {K : PySem.W.Frag} {C p q : Addr} {n : Nat} {b : Bool} {ρ : List Sl} {Mr : Ms} {ta tb tc : TE} {x l : Int} {E : XK} (ha : Ev K ta ρ ((p, plO C n b q) :: (q, .dP (Gd b n)) :: Mr) (.loc (.ref p)) ((p, plO C n b q) :: (q, .dP (Gd b n)) :: Mr))
    (hb : Ev K tb ρ ((p, plO C n b q) :: (q, .dP (Gd b n)) :: Mr) (.dat (.int x)) ((p, plO C n b q) :: (q, .dP (Gd b n)) :: Mr)) (hc : Ev K tc ρ ((p, plO C n b q) :: (q, .dP (Gd b n)) :: Mr) (.dat (.int l)) ((p, plO C n b q) :: (q, .dP (Gd b n)) :: Mr)) :
    Ev K (tMeth C "cost" (spMs K (R_cost C)) [] E ta (tCons tb (tCons tc tNil))) ρ ((p, plO C n b q) :: (q, .dP (Gd b n)) :: Mr) (.dat (.int (costOf b x l))) ((p, plO C n b q) :: (q, .dP (Gd b n)) :: Mr) :=
  ev_plM (by decide +kernel) ha (EvA.cons hb (EvA.cons hc EvA.nil)) ⟨p, q, n, b, x, l, rfl, rfl, rfl, rfl⟩
abbrev s_Plans_cost : Stmt := inClass (topS 38) 1
theorem sc_Plans_cost : FnScope ["self", "place", "later"] ["self", "place", "later"] (defScope s_Plans_cost) := ⟨rfl, rfl, rfl, by decide +kernel, rfl, by decide +kernel, by decide +kernel⟩
theorem ok_Plans_cost {C : Addr} (Y : PlansC K mg C) (T : RawM K C "cost" "Plans.cost" s_Plans_cost) (B : Bl mg) : HasM P w K mg base C 1 "cost" ["self", "place", "later"] (spMs K (R_cost C)) := by
  have c_Plans := Y.cl
  have g_Plans := Y.g
  obtain ⟨f, fd, Fn, Mt⟩ := T
  refine ⟨f, fd, okMs Fn sc_Plans_cost ?len (fun cdv A outer s H E hr => ⟨_, (pss_one (ps_ret (pe_ifExp (pt_val (pe_fld (pv 0) rfl)) (pe_callB c_abs (by rfl) B.abs_ (by decide +kernel) (pa_cons (pe_op op_sub (pv 1) (pv 2)) pa_nil)) pe_int))), ?_⟩), Mt, Fn.binds fun _ _ _ _ _ _ us hl => match us, hl with | [_, _, _], _ => rfl⟩
  case len =>
    rintro M ss r M' ⟨p, q, n, b, x, l, rfl, rfl, rfl, rfl⟩ <;> rfl
  rintro M ss r M' ⟨p, q, n, b, x, l, rfl, rfl, rfl, rfl⟩ F L σ H D hrt hnx hL o
  try dsimp only [cxOf]
  replace o : Ok K F L σ H [.loc (.ref p), .dat (.int x), .dat (.int l)] (plM C n b p q) := o
  refine s_retMs (Mn := plM C n b p q) (M1 := plM C n b p q) (ev_isD (ev_ite2 (et_test (ev_plBy Y (ev_varL rfl) List.mem_cons_self)) (by wtm_at "ev") (by wtm_at "ev")) ?_) (fun x hx => hx) hrt o
  unfold costOf
  cases b <;> rfl
/-! the dict of the parts, word by word -/
def cutsW (lo hi p l : Int) : List (Str × (Int × Int)) :=
  if p = l then [(wSame, (lo, hi))] else
    (if lo ≤ min hi ((p + l - 1) / 2) then [(if p < l then wCold else wWarm, (lo, min hi ((p + l - 1) / 2)))] else []) ++
    ((if max lo ((p + l + 1) / 2) ≤ min hi ((p + l) / 2) then [(wSame, (max lo ((p + l + 1) / 2), min hi ((p + l) / 2)))] else []) ++
    (if max lo ((p + l) / 2 + 1) ≤ hi then [(if p < l then wWarm else wCold, (max lo ((p + l) / 2 + 1), hi))] else []))
theorem cutsW_cuts (lo hi p l : Int) : (cutsW lo hi p l).map (·.2) = cutsOf lo hi p l := by
  unfold cutsW cutsOf
  split
  · rfl
  · rw [List.map_append, List.map_append]
    congr 1
    · split <;> rfl
    · congr 1
      · split <;> rfl
      · split <;> rfl
theorem ans_lt {t p l : Int} (h : p ≠ l) (h2 : 2 * t < p + l) : ansOf t p l = if p < l then wCold else wWarm := by
  unfold ansOf wordOf
  rw [if_neg (by omega)]
  by_cases e : p < l
  · rw [if_pos e, if_neg (by omega)]
  · rw [if_neg e, if_pos (by omega)]
theorem ans_gt {t p l : Int} (h : p ≠ l) (h2 : p + l < 2 * t) : ansOf t p l = if p < l then wWarm else wCold := by
  unfold ansOf wordOf
  rw [if_neg (by omega)]
  by_cases e : p < l
  · rw [if_pos e, if_pos (by omega)]
  · rw [if_neg e, if_neg (by omega)]
theorem ans_eq {t p l : Int} (h2 : p + l = 2 * t ∨ p = l) : ansOf t p l = wSame := by
  unfold ansOf wordOf
  rw [if_pos (by omega)]
theorem wCS : ¬ wCold = wSame := by decide +kernel
theorem wSC : ¬ wSame = wCold := by decide +kernel
theorem wWS : ¬ wWarm = wSame := by decide +kernel
theorem wSW : ¬ wSame = wWarm := by decide +kernel
theorem wCW : ¬ wCold = wWarm := by decide +kernel
theorem wWC : ¬ wWarm = wCold := by decide +kernel
def kvG (v : Int → Int → PyData) (lo p l : Int) : Nat → List (Key × PyData)
  | 0 => []
  | k + 1 => (cutsW lo (lo + k) p l).map fun e => (.inr e.1, v e.2.1 e.2.2)
/-- a thing more: its word is new, or its part grows -/
theorem kvG_step (v : Int → Int → PyData) (lo p l : Int) (k : Nat) :
    (valD (kvG v lo p l k) (.inr (ansOf (lo + k) p l) : Key) = none ∧ putD (kvG v lo p l k) (.inr (ansOf (lo + k) p l) : Key) (v (lo + k) (lo + k)) = kvG v lo p l (k + 1)) ∨
    ∃ a, a ≤ lo + k - 1 ∧ lo ≤ a ∧ valD (kvG v lo p l k) (.inr (ansOf (lo + k) p l) : Key) = some (v a (lo + k - 1)) ∧ putD (kvG v lo p l k) (.inr (ansOf (lo + k) p l) : Key) (v a (lo + k)) = kvG v lo p l (k + 1) := by
  by_cases hpl : p = l
  · rw [ans_eq (.inr hpl)]
    cases k with
    | zero =>
      left
      refine ⟨rfl, ?_⟩
      show [(Sum.inr wSame, v (lo + (0 : Nat)) (lo + (0 : Nat)))] = (cutsW lo (lo + (0 : Nat)) p l).map _
      unfold cutsW
      rw [if_pos hpl, show lo + ((0 : Nat) : Int) = lo by omega]; rfl
    | succ k =>
      right
      have e : kvG v lo p l (k + 1) = [(Sum.inr wSame, v lo (lo + k))] := by
        show (cutsW lo (lo + k) p l).map _ = _
        unfold cutsW
        rw [if_pos hpl]; rfl
      have e2 : kvG v lo p l (k + 1 + 1) = [(Sum.inr wSame, v lo (lo + (k + 1 : Nat)))] := by
        show (cutsW lo (lo + (k + 1 : Nat)) p l).map _ = _
        unfold cutsW
        rw [if_pos hpl]; rfl
      rw [e, e2]
      refine ⟨lo, by omega, by omega, ?_, ?_⟩
      · show (if (Sum.inr wSame : Key) = Sum.inr wSame then _ else _) = _
        rw [if_pos rfl, show lo + ((k + 1 : Nat) : Int) - 1 = lo + k by omega]
      · unfold putD
        rw [show valD [((Sum.inr wSame : Key), v lo (lo + k))] (Sum.inr wSame) = some (v lo (lo + k)) from if_pos rfl]
        simp
  · have kv : ∀ k : Nat, kvG v lo p l k = (if lo ≤ min (lo + k - 1) ((p + l - 1) / 2) then [((Sum.inr (if p < l then wCold else wWarm) : Key), v lo (min (lo + k - 1) ((p + l - 1) / 2)))] else []) ++
        ((if max lo ((p + l + 1) / 2) ≤ min (lo + k - 1) ((p + l) / 2) then [((Sum.inr wSame : Key), v (max lo ((p + l + 1) / 2)) (min (lo + k - 1) ((p + l) / 2)))] else []) ++
        (if max lo ((p + l) / 2 + 1) ≤ lo + k - 1 then [((Sum.inr (if p < l then wWarm else wCold) : Key), v (max lo ((p + l) / 2 + 1)) (lo + k - 1))] else [])) := fun k => by
      cases k with
      | zero =>
        rw [if_neg (by omega), if_neg (by omega), if_neg (by omega)]; rfl
      | succ k =>
        show (cutsW lo (lo + k) p l).map _ = _
        unfold cutsW
        rw [if_neg hpl, show lo + ((k + 1 : Nat) : Int) - 1 = lo + k by omega, List.map_append, List.map_append]
        congr 1
        · split <;> rfl
        · congr 1
          · split <;> rfl
          · split <;> rfl
    rw [kv k, kv (k + 1), show lo + ((k + 1 : Nat) : Int) - 1 = lo + k by omega]
    have hk : lo + (k : Int) - 1 = lo + k - 1 := rfl
    generalize ht : lo + (k : Int) = t at *
    have h0 : lo ≤ t := by omega
    have n1 : ∀ a b : Str, ¬ a = b → ¬ (Sum.inr a : Key) = Sum.inr b := fun a b h e => h (Sum.inr.inj e)
    have ns1 : ¬ (if p < l then wCold else wWarm) = wSame := by split <;> first | exact wCS | exact wWS
    have ns3 : ¬ (if p < l then wWarm else wCold) = wSame := by split <;> first | exact wCS | exact wWS
    have ns13 : ¬ (if p < l then wCold else wWarm) = (if p < l then wWarm else wCold) := by split <;> first | exact wCW | exact wWC
    by_cases c1 : 2 * t < p + l
    · rw [ans_lt hpl c1]
      generalize (if p < l then wCold else wWarm) = w1 at *
      generalize (if p < l then wWarm else wCold) = w3 at *
      rw [if_neg (show ¬ max lo ((p + l + 1) / 2) ≤ min (t - 1) ((p + l) / 2) by omega), if_neg (show ¬ max lo ((p + l) / 2 + 1) ≤ t - 1 by omega), if_neg (show ¬ max lo ((p + l + 1) / 2) ≤ min t ((p + l) / 2) by omega), if_neg (show ¬ max lo ((p + l) / 2 + 1) ≤ t by omega),
        if_pos (show lo ≤ min t ((p + l - 1) / 2) by omega), show min t ((p + l - 1) / 2) = t by omega, show min (t - 1) ((p + l - 1) / 2) = t - 1 by omega]
      by_cases g : lo ≤ t - 1
      · right
        rw [if_pos g]
        refine ⟨lo, g, Int.le_refl _, by simp [valD], by simp [putD, valD]⟩
      · left
        rw [if_neg g, show lo = t by omega]
        exact ⟨rfl, rfl⟩
    · by_cases c2 : 2 * t = p + l
      · rw [ans_eq (.inl c2.symm)]
        left
        generalize (if p < l then wCold else wWarm) = w1 at *
        generalize (if p < l then wWarm else wCold) = w3 at *
        rw [if_neg (show ¬ max lo ((p + l + 1) / 2) ≤ min (t - 1) ((p + l) / 2) by omega), if_neg (show ¬ max lo ((p + l) / 2 + 1) ≤ t - 1 by omega), if_pos (show max lo ((p + l + 1) / 2) ≤ min t ((p + l) / 2) by omega), if_neg (show ¬ max lo ((p + l) / 2 + 1) ≤ t by omega),
          show max lo ((p + l + 1) / 2) = t by omega, show min t ((p + l) / 2) = t by omega, show min (t - 1) ((p + l - 1) / 2) = min t ((p + l - 1) / 2) by omega]
        by_cases g : lo ≤ min t ((p + l - 1) / 2)
        · rw [if_pos g]
          simp [valD, putD, ns1]
        · rw [if_neg g]
          exact ⟨rfl, rfl⟩
      · rw [ans_gt hpl (by omega)]
        generalize (if p < l then wCold else wWarm) = w1 at *
        generalize (if p < l then wWarm else wCold) = w3 at *
        rw [if_pos (show max lo ((p + l) / 2 + 1) ≤ t by omega), show min (t - 1) ((p + l - 1) / 2) = min t ((p + l - 1) / 2) by omega, show min (t - 1) ((p + l) / 2) = min t ((p + l) / 2) by omega]
        have ns3' : ¬ wSame = w3 := fun e => ns3 e.symm
        by_cases g : max lo ((p + l) / 2 + 1) ≤ t - 1
        · right
          rw [if_pos g]
          refine ⟨max lo ((p + l) / 2 + 1), g, by omega, ?_, ?_⟩
          · split <;> split <;> simp [valD, ns13, ns3']
          · split <;> split <;> simp [putD, valD, ns13, ns3']
        · left
          rw [if_neg g, show max lo ((p + l) / 2 + 1) = t by omega]
          constructor
          · split <;> split <;> simp [valD, ns13, ns3']
          · split <;> split <;> simp [putD, valD, ns13, ns3']
theorem kvG_len (v : Int → Int → PyData) (lo p l : Int) (k : Nat) : (kvG v lo p l k).length ≤ 3 := by
  cases k with
  | zero => exact Nat.zero_le _
  | succ k =>
    show ((cutsW lo (lo + k) p l).map _).length ≤ 3
    rw [List.length_map, ← List.length_map (f := (·.2)), cutsW_cuts]
    exact cuts_len
theorem kvG_vals (v : Int → Int → PyData) {lo hi p l : Int} (h : lo ≤ hi) : (kvG v lo p l (hi + 1 - lo).toNat).map (·.2) = (cutsOf lo hi p l).map fun c => v c.1 c.2 := by
  obtain ⟨k, hk⟩ : ∃ k : Nat, (hi + 1 - lo).toNat = k + 1 := ⟨(hi - lo).toNat, by omega⟩
  rw [hk]
  show ((cutsW lo (lo + k) p l).map _).map _ = _
  rw [show lo + (k : Int) = hi by omega, ← cutsW_cuts, List.map_map, List.map_map]
  rfl
abbrev dCuts (lo hi p l : Int) : List PyData := (cutsOf lo hi p l).map fun c => dT2 c.1 c.2
def R_parts (C : Addr) (M : Ms) (ss : List Sl) (r : PyData) (M' : Ms) : Prop := ∃ (p q : Addr) (n : Nat) (b : Bool) (lo hi x l : Int), M = plM C n b p q ∧ M' = plM C n b p q ∧ ss = [.loc (.ref p), .dat (dT2 lo hi), .dat (.int x), .dat (.int l)] ∧ 1 ≤ lo ∧ lo ≤ hi ∧ hi ≤ n ∧ n ≤ 1000 ∧ r = .list (dCuts lo hi x l)
theorem ev_plParts {K : PySem.W.Frag} {C p q : Addr} {n : Nat} {b : Bool} {ρ : List Sl} {Mr : Ms} {ta tb tc td : TE} {lo hi x l : Int} {E : XK} (ha : Ev K ta ρ ((p, plO C n b q) :: (q, .dP (Gd b n)) :: Mr) (.loc (.ref p)) ((p, plO C n b q) :: (q, .dP (Gd b n)) :: Mr))
    (hb : Ev K tb ρ ((p, plO C n b q) :: (q, .dP (Gd b n)) :: Mr) (.dat (dT2 lo hi)) ((p, plO C n b q) :: (q, .dP (Gd b n)) :: Mr)) (hc : Ev K tc ρ ((p, plO C n b q) :: (q, .dP (Gd b n)) :: Mr) (.dat (.int x)) ((p, plO C n b q) :: (q, .dP (Gd b n)) :: Mr)) (hd : Ev K td ρ ((p, plO C n b q) :: (q, .dP (Gd b n)) :: Mr) (.dat (.int l)) ((p, plO C n b q) :: (q, .dP (Gd b n)) :: Mr))
    (h1 : 1 ≤ lo) (h2 : lo ≤ hi) (h3 : hi ≤ n) (h4 : n ≤ 1000) :
    Ev K (tMeth C "parts" (spMs K (R_parts C)) [] E ta (tCons tb (tCons tc (tCons td tNil)))) ρ ((p, plO C n b q) :: (q, .dP (Gd b n)) :: Mr) (.dat (.list (dCuts lo hi x l))) ((p, plO C n b q) :: (q, .dP (Gd b n)) :: Mr) :=
  ev_plM (by decide +kernel) ha (EvA.cons hb (EvA.cons hc (EvA.cons hd EvA.nil))) ⟨p, q, n, b, lo, hi, x, l, rfl, rfl, rfl, h1, h2, h3, h4, rfl⟩
abbrev s_Plans_parts : Stmt := inClass (topS 38) 2
theorem sc_Plans_parts : FnScope ["self", "stretch", "place", "later", "found", "thing", "word", "low", "high"] ["self", "stretch", "place", "later"] (defScope s_Plans_parts) := ⟨rfl, rfl, rfl, by decide +kernel, rfl, by decide +kernel, by decide +kernel⟩
theorem ok_Plans_parts {C : Addr} (Y : PlansC K mg C) (T : RawM K C "parts" "Plans.parts" s_Plans_parts) (B : Bl mg) (h_answer : Has P w K mg base 2 "answer" ["thing", "before", "now"] (spP K R_answer)) : HasM P w K mg base C 3 "parts" ["self", "stretch", "place", "later"] (spMs K (R_parts C)) := by
  have c_Plans := Y.cl
  have g_Plans := Y.g
  obtain ⟨f, fd, Fn, Mt⟩ := T
  obtain ⟨_, _, G_answer, g_answer, k_answer, b_answer⟩ := h_answer
  refine ⟨f, fd, okMs Fn sc_Plans_parts ?len (fun cdv A outer s H E hr => ⟨_, (pss_cons (ps_set (i := 4) sc_Plans_parts.nd rfl (by first | exact .inl rfl | exact .inr rfl) pe_dnewK)
      (pss_cons (ps_for PassesOwn.never rfl (pi_range2 (by rfl) B.range_ (pa_cons (pe_ix (w_ixT (K' := K) rfl) (pv 1) pe_int (fun _ _ => rfl)) (pa_cons (pe_op op_add (pe_ix (w_ixT (K' := K) rfl) (pv 1) pe_int (fun _ _ => rfl)) pe_int) pa_nil))) (pg_name (i := 5) sc_Plans_parts.nd rfl (by first | exact .inl rfl | exact .inr rfl))
      (pss_cons (ps_set (i := 6) sc_Plans_parts.nd rfl (by first | exact .inl rfl | exact .inr rfl) (pe_call G_answer (hr.mono (by first | decide | omega)) (by rfl) g_answer k_answer b_answer .nil pass0 (pa_cons (pv 5) (pa_cons (pv 2) (pa_cons (pv 3) pa_nil)))))
      (pss_cons (ps_asg (pe_dget2 (hu_of hr) (pv 4) (pv 6) (pe_tup (pa_cons (pv 5) (pa_cons (pv 5) pa_nil))) ⟨rfl, rfl, rfl, rfl⟩) (pg_tup rfl (pgs_cons (pg_name (i := 7) sc_Plans_parts.nd rfl (by first | exact .inl rfl | exact .inr rfl)) (pgs_cons (pg_name (i := 8) sc_Plans_parts.nd rfl (by first | exact .inl rfl | exact .inr rfl)) pgs_nil))))
      (pss_one (ps_dput (hu_of hr) (pv 4) (pv 6) (pe_tup (pa_cons (pe_callB (c_min2 rfl) (by rfl) B.min_ (by decide +kernel) (pa_cons (pv 7) (pa_cons (pv 5) pa_nil))) (pa_cons (pe_callB (c_max2 rfl) (by rfl) B.max_ (by decide +kernel) (pa_cons (pv 8) (pa_cons (pv 5) pa_nil))) pa_nil))) rfl)))))
      (pss_one (ps_ret (pe_listVals rfl (pv 4) (by rfl) B.list_ (by decide +kernel)))))), ?_⟩), Mt, Fn.binds fun _ _ _ _ _ _ us hl => match us, hl with | [_, _, _, _], _ => rfl⟩
  case len =>
    rintro M ss r M' ⟨p, q, n, b, lo, hi, x, l, rfl, rfl, rfl, h1, h2, h3, h4, rfl⟩ <;> rfl
  rintro M ss r M' ⟨p, q, n, b, lo, hi, x, l, rfl, rfl, rfl, h1, h2, h3, h4, rfl⟩ F L σ H D hrt hnx hL o
  try dsimp only [cxOf]
  replace o : Ok K F L σ H [.loc (.ref p), .dat (dT2 lo hi), .dat (.int x), .dat (.int l), .un, .un, .un, .un, .un] (plM C n b p q) := o
  refine q_asgNw nw_dK (fun c σ H o => ?_) o
  replace o : Ok K F L σ H [.loc (.ref p), .dat (dT2 lo hi), .dat (.int x), .dat (.int l), .loc (.ref c), .un, .un, .un, .un] ((p, plO C n b q) :: (q, .dP (Gd b n)) :: (c, .dK []) :: []) := o
  have ix0 : ∀ {ρ : List Sl} {M : Ms}, ρ[1]? = some (.dat (dT2 lo hi)) → Ev K (tOp (rIxT K) (tVar 1) (tC (.int 0))) ρ M (.dat (.int lo)) M := fun h => ev_ixT (ds := [.int lo, .int hi]) (ev_varD h) ev_int rfl
  have ix1 : ∀ {ρ : List Sl} {M : Ms}, ρ[1]? = some (.dat (dT2 lo hi)) → Ev K (tOp (rIxT K) (tVar 1) (tC (.int 1))) ρ M (.dat (.int hi)) M := fun h => ev_ixT (ds := [.int lo, .int hi]) (ev_varD h) ev_int rfl
  refine q_for0 (n := (hi + 1 - lo).toNat) (item := fun k => .int (lo + (k : Nat))) (fun i ρ M => ∃ s5 s6 s7 s8, ρ = [.loc (.ref p), .dat (dT2 lo hi), .dat (.int x), .dat (.int l), .loc (.ref c), s5, s6, s7, s8] ∧ M = (p, plO C n b q) :: (q, .dP (Gd b n)) :: (c, .dK (kvG dT2 lo x l i)) :: [])
    (ei_rng2 (EvA.cons (ix0 rfl) (EvA.cons (ev_add (ix1 rfl) ev_int) EvA.nil)) (by omega)) (by wtm_at "eg") ⟨_, _, _, _, rfl, rfl⟩ (fun F' sF i hi' ρ M hJ σ H o => ?_) (fun ρ M hJ σ H o => ?_) o
  · obtain ⟨s5, s6, s7, s8, rfl, rfl⟩ := hJ
    replace o : Ok K F' L σ H [.loc (.ref p), .dat (dT2 lo hi), .dat (.int x), .dat (.int l), .loc (.ref c), .dat (.int (lo + (i : Nat))), s6, s7, s8] ((p, plO C n b q) :: (q, .dP (Gd b n)) :: (c, .dK (kvG dT2 lo x l i)) :: []) := o
    refine q_asg0 (ev_answer (ev_varD rfl) (ev_varD rfl) (ev_varD rfl)) (fun σ H o => ?_) o
    have st := kvG_step dT2 lo x l i
    have lz := kvG_len dT2 lo x l i
    generalize ansOf (lo + (i : Int)) x l = wd at *
    replace o : Ok K F' L σ H [.loc (.ref p), .dat (dT2 lo hi), .dat (.int x), .dat (.int l), .loc (.ref c), .dat (.int (lo + (i : Nat))), .dat (.str wd), s7, s8] ((p, plO C n b q) :: (q, .dP (Gd b n)) :: (c, .dK (kvG dT2 lo x l i)) :: []) := o
    have hget : ∃ a e, (valD (kvG dT2 lo x l i) (.inr wd : Key)).getD (dT2 (lo + i) (lo + i)) = dT2 a e ∧ putD (kvG dT2 lo x l i) (.inr wd : Key) (dT2 (min a (lo + i)) (max e (lo + i))) = kvG dT2 lo x l (i + 1) := by
      rcases st with ⟨g1, g2⟩ | ⟨a, a1, a2, g1, g2⟩
      · rw [g1]
        exact ⟨_, _, rfl, by rw [show min (lo + (i : Int)) (lo + i) = lo + i by omega, show max (lo + (i : Int)) (lo + i) = lo + i by omega]; exact g2⟩
      · rw [g1]
        exact ⟨_, _, rfl, by rw [show min a (lo + (i : Int)) = a by omega, show max (lo + (i : Int) - 1) (lo + i) = lo + i by omega]; exact g2⟩
    obtain ⟨a, e, g1, g2⟩ := hget
    refine q_asg2 (d1 := .int a) (d2 := .int e) (ev_isD (ev_dget2 (k := .inr wd) (kvs := kvG dT2 lo x l i) (d := dT2 (lo + i) (lo + i)) (ev_varL rfl) (List.mem_cons_of_mem _ (List.mem_cons_of_mem _ List.mem_cons_self)) (ev_varD rfl) (ev_tupD (ds := [.int (lo + i), .int (lo + i)]) (ed_cons (ev_varD rfl) (ed_cons (ev_varD rfl) ed_nil)) (by simp))) g1) (fun σ H o => ?_) o
    replace o : Ok K F' L σ H [.loc (.ref p), .dat (dT2 lo hi), .dat (.int x), .dat (.int l), .loc (.ref c), .dat (.int (lo + (i : Nat))), .dat (.str wd), .dat (.int a), .dat (.int e)] ((p, plO C n b q) :: (q, .dP (Gd b n)) :: (c, .dK (kvG dT2 lo x l i)) :: []) := o
    refine s_dputK (k := .inr wd) (j := 2) (d := dT2 (min a (lo + i)) (max e (lo + i))) (ev_tupD (ds := [.int (min a (lo + i)), .int (max e (lo + i))]) (ed_cons (by wtm_at "ev") (ed_cons (by wtm_at "ev") ed_nil)) (by simp)) (ev_varL rfl) (ev_varD rfl) rfl (by omega) (fun H o => ?_) o
    exact ⟨_, _, ⟨_, _, _, _, rfl, by rw [← g2]; rfl⟩, o⟩
  · obtain ⟨s5, s6, s7, s8, rfl, rfl⟩ := hJ
    refine s_retMs (Mn := plM C n b p q) (M1 := (p, plO C n b q) :: (q, .dP (Gd b n)) :: (c, .dK (kvG dT2 lo x l (hi + 1 - lo).toNat)) :: []) (EvN.ev (evn_is (evn_listVals (kvs := kvG dT2 lo x l (hi + 1 - lo).toNat) (ev_varL rfl) (List.mem_cons_of_mem _ (List.mem_cons_of_mem _ List.mem_cons_self))) (kvG_vals dT2 h2))) (fun y hy => ?_) hrt o
    exact List.mem_append_left [(c, _)] hy
theorem getD_cuts {α : Type} (f : α → PyData) (xs : List α) (z : α) (i : Nat) (h : i < xs.length) : (xs.map f).getD i .none = f (xs.getD i z) := by
  simp [List.getD_eq_getElem?_getD, h]
theorem getD_memI {α : Type} {xs : List α} {z : α} {i : Nat} (h : i < xs.length) : xs.getD i z ∈ xs := by
  rw [List.getD_eq_getElem?_getD, List.getElem?_eq_getElem h]
  exact List.getElem_mem h
def optI : Option Int → PyData
  | none => .none
  | some v => .int v
def R_best (C : Addr) (m : Nat) (M : Ms) (ss : List Sl) (r : PyData) (M' : Ms) : Prop := ∃ (p q : Addr) (n : Nat) (b : Bool) (lo hi x : Int), M = plM C n b p q ∧ M' = plM C n b p q ∧ ss = [.loc (.ref p), .dat (dT2 lo hi), .dat (.int x)] ∧ 1 ≤ lo ∧ lo ≤ hi ∧ hi ≤ n ∧ n ≤ 900 ∧ hi - lo ≤ m ∧ 1 ≤ x ∧ x ≤ n ∧ r = .int (Bst b n lo hi x)
def R_table (C : Addr) (m : Nat) (M : Ms) (ss : List Sl) (r : PyData) (M' : Ms) : Prop := ∃ (p q : Addr) (n : Nat) (b : Bool) (lo hi : Int), M = plM C n b p q ∧ M' = plM C n b p q ∧ ss = [.loc (.ref p), .dat (dT2 lo hi)] ∧ 1 ≤ lo ∧ lo < hi ∧ hi ≤ n ∧ n ≤ 900 ∧ hi - lo ≤ m ∧ r = tabD b n lo hi
def R_news (C : Addr) (m : Nat) (M : Ms) (ss : List Sl) (r : PyData) (M' : Ms) : Prop := ∃ (p q : Addr) (n : Nat) (b : Bool) (lo hi x : Int), M = plM C n b p q ∧ M' = plM C n b p q ∧ ss = [.loc (.ref p), .dat (dT2 lo hi), .dat (.int x)] ∧ 1 ≤ lo ∧ lo < hi ∧ hi ≤ n ∧ n ≤ 900 ∧ hi - lo ≤ m + 1 ∧ 1 ≤ x ∧ x ≤ n ∧ r = optI (nws b n lo hi x)
section
variable {K : PySem.W.Frag} {C p q : Addr} {n m : Nat} {b : Bool} {ρ : List Sl} {Mr : Ms} {ta tb tc td : TE} {lo hi x l : Int} {E : XK}
theorem ev_plBest (ha : Ev K ta ρ ((p, plO C n b q) :: (q, .dP (Gd b n)) :: Mr) (.loc (.ref p)) ((p, plO C n b q) :: (q, .dP (Gd b n)) :: Mr))
    (hb : Ev K tb ρ ((p, plO C n b q) :: (q, .dP (Gd b n)) :: Mr) (.dat (dT2 lo hi)) ((p, plO C n b q) :: (q, .dP (Gd b n)) :: Mr)) (hc : Ev K tc ρ ((p, plO C n b q) :: (q, .dP (Gd b n)) :: Mr) (.dat (.int x)) ((p, plO C n b q) :: (q, .dP (Gd b n)) :: Mr))
    (h1 : 1 ≤ lo) (h2 : lo ≤ hi) (h3 : hi ≤ n) (h4 : n ≤ 900) (h5 : hi - lo ≤ m) (h6 : 1 ≤ x) (h7 : x ≤ n) :
    Ev K (tMeth C "best" (spMs K (R_best C m)) [] E ta (tCons tb (tCons tc tNil))) ρ ((p, plO C n b q) :: (q, .dP (Gd b n)) :: Mr) (.dat (.int (Bst b n lo hi x))) ((p, plO C n b q) :: (q, .dP (Gd b n)) :: Mr) :=
  ev_plM (by decide +kernel) ha (EvA.cons hb (EvA.cons hc EvA.nil)) ⟨p, q, n, b, lo, hi, x, rfl, rfl, rfl, h1, h2, h3, h4, h5, h6, h7, rfl⟩
theorem ev_plTable (ha : Ev K ta ρ ((p, plO C n b q) :: (q, .dP (Gd b n)) :: Mr) (.loc (.ref p)) ((p, plO C n b q) :: (q, .dP (Gd b n)) :: Mr))
    (hb : Ev K tb ρ ((p, plO C n b q) :: (q, .dP (Gd b n)) :: Mr) (.dat (dT2 lo hi)) ((p, plO C n b q) :: (q, .dP (Gd b n)) :: Mr))
    (h1 : 1 ≤ lo) (h2 : lo < hi) (h3 : hi ≤ n) (h4 : n ≤ 900) (h5 : hi - lo ≤ m) :
    Ev K (tMeth C "table" (spMs K (R_table C m)) [] E ta (tCons tb tNil)) ρ ((p, plO C n b q) :: (q, .dP (Gd b n)) :: Mr) (.dat (tabD b n lo hi)) ((p, plO C n b q) :: (q, .dP (Gd b n)) :: Mr) :=
  ev_plM (by decide +kernel) ha (EvA.cons hb EvA.nil) ⟨p, q, n, b, lo, hi, rfl, rfl, rfl, h1, h2, h3, h4, h5, rfl⟩
theorem ev_plNews (ha : Ev K ta ρ ((p, plO C n b q) :: (q, .dP (Gd b n)) :: Mr) (.loc (.ref p)) ((p, plO C n b q) :: (q, .dP (Gd b n)) :: Mr))
    (hb : Ev K tb ρ ((p, plO C n b q) :: (q, .dP (Gd b n)) :: Mr) (.dat (dT2 lo hi)) ((p, plO C n b q) :: (q, .dP (Gd b n)) :: Mr)) (hc : Ev K tc ρ ((p, plO C n b q) :: (q, .dP (Gd b n)) :: Mr) (.dat (.int x)) ((p, plO C n b q) :: (q, .dP (Gd b n)) :: Mr))
    (h1 : 1 ≤ lo) (h2 : lo < hi) (h3 : hi ≤ n) (h4 : n ≤ 900) (h5 : hi - lo ≤ m + 1) (h6 : 1 ≤ x) (h7 : x ≤ n) :
    Ev K (tMeth C "with_news" (spMs K (R_news C m)) [] E ta (tCons tb (tCons tc tNil))) ρ ((p, plO C n b q) :: (q, .dP (Gd b n)) :: Mr) (.dat (optI (nws b n lo hi x))) ((p, plO C n b q) :: (q, .dP (Gd b n)) :: Mr) :=
  ev_plM (by decide +kernel) ha (EvA.cons hb (EvA.cons hc EvA.nil)) ⟨p, q, n, b, lo, hi, x, rfl, rfl, rfl, h1, h2, h3, h4, h5, h6, h7, rfl⟩
/-- the worst of the parts: max([self.best(one, later) for one in some]) -/
theorem ev_plWorst {i1 i2 i3 : Nat} (ha : ρ[0]? = some (.loc (.ref p))) (hs : ρ[i2]? = some (.dat (.list (dCuts lo hi x l)))) (hl : ρ[i3]? = some (.dat (.int l))) (n1 : 0 ≠ i1) (n2 : i3 ≠ i1) (hi1 : i1 < ρ.length)
    (h1 : 1 ≤ lo) (h2 : lo ≤ hi) (h3 : hi ≤ n) (h4 : n ≤ 900) (h6 : 1 ≤ l) (h7 : l ≤ n) (h5 : ∀ c ∈ cutsOf lo hi x l, c.2 - c.1 ≤ m) :
    Ev K (tCB (rMax K) (tCons (tLc (iList K (tVar i2)) (gName i1) tYes (tMeth C "best" (spMs K (R_best C m)) [] E (tVar 0) (tCons (tVar i1) (tCons (tVar i3) tNil))) [i1]) tNil)) ρ ((p, plO C n b q) :: (q, .dP (Gd b n)) :: Mr) (.dat (.int (worst (Bst b n) lo hi x l))) ((p, plO C n b q) :: (q, .dP (Gd b n)) :: Mr) := by
  refine ev_maxL (ns := (cutsOf lo hi x l).map fun c => Bst b n c.1 c.2 l) (EvA.cons (EvN.ev (evn_is (evn_lcP (n := (dCuts lo hi x l).length) (item := fun i => (dCuts lo hi x l).getD i .none) (fun i => (fun c : Int × Int => PyData.int (Bst b n c.1 c.2 l)) ((cutsOf lo hi x l).getD i (0, 0))) (ei_list (ev_varD hs)) (by wtm_at "eg") (by simp) (fun i hi' => ?el) ?len) ?eq)) EvA.nil) (mxL_mem ?ne) (fun y hy => mxL_le hy)
  case el =>
    rw [List.length_map] at hi'
    have hm := getD_memI (z := ((0, 0) : Int × Int)) hi'
    have hc := cuts_sub h2 hm
    have hd := h5 _ hm
    have e : (dCuts lo hi x l).getD i .none = dT2 ((cutsOf lo hi x l).getD i (0, 0)).1 ((cutsOf lo hi x l).getD i (0, 0)).2 := getD_cuts _ _ _ _ hi'
    refine ev_plBest (ev_varL ?_) (ev_varD ?_) (ev_varD ?_) (by omega) hc.2.1 (by omega) h4 hd h6 h7
    · show ((ρ.set i1 .un).set i1 _)[0]? = _
      rw [List.getElem?_set_ne n1.symm, List.getElem?_set_ne n1.symm]; exact ha
    · show ((ρ.set i1 .un).set i1 _)[i1]? = _
      rw [List.getElem?_set_self (by rw [List.length_set]; exact hi1), e]
    · show ((ρ.set i1 .un).set i1 _)[i3]? = _
      rw [List.getElem?_set_ne n2.symm, List.getElem?_set_ne n2.symm]; exact hl
  case len => rw [List.length_map]; have := cuts_len (lo := lo) (hi := hi) (p := x) (l := l); omega
  case eq =>
    rw [List.length_map, range_map_getD (cutsOf lo hi x l) (0, 0) (fun c => PyData.int (Bst b n c.1 c.2 l)), List.map_map]
    rfl
  case ne => exact fun e => cuts_ne h2 (List.map_eq_nil_iff.mp e)
end

abbrev s_Plans_best : Stmt := inClass (topS 38) 5
theorem sc_Plans_best : FnScope ["self", "stretch", "place"] ["self", "stretch", "place"] (defScope s_Plans_best) := ⟨rfl, rfl, rfl, by decide +kernel, rfl, by decide +kernel, by decide +kernel⟩
theorem ok_Plans_best {C : Addr} (Y : PlansC K mg C) (T : RawM K C "best" "Plans.best" s_Plans_best) (B : Bl mg) {k m : Nat} (h_Plans_table : HasM P w K mg base C k "table" ["self", "stretch"] (spMs K (R_table C m))) : HasM P w K mg base C (k + 1) "best" ["self", "stretch", "place"] (spMs K (R_best C m)) := by
  have c_Plans := Y.cl
  have g_Plans := Y.g
  obtain ⟨f, fd, Fn, Mt⟩ := T
  obtain ⟨_, _, G_Plans_table, m_Plans_table, b_Plans_table⟩ := h_Plans_table
  refine ⟨f, fd, okMs Fn sc_Plans_best ?len (fun cdv A outer s H E hr => ⟨_, (pss_one (ps_ret (pe_ifExp (pt_cmpR op_eq (pe_ix (w_ixT (K' := K) rfl) (pv 1) pe_int (fun _ _ => rfl)) (pe_ix (w_ixT (K' := K) rfl) (pv 1) pe_int (fun _ _ => rfl)) (nomark _)) pe_int (pe_ix (w_ixL (K' := K) rfl) (pe_meth (pv 0) c_Plans m_Plans_table G_Plans_table (hr.mono (by first | decide | omega)) b_Plans_table .nil pass0 (pa_cons (pv 1) pa_nil)) (pe_op op_sub (pv 2) pe_int) (fun _ _ => rfl))))), ?_⟩), Mt, Fn.binds fun _ _ _ _ _ _ us hl => match us, hl with | [_, _, _], _ => rfl⟩
  case len =>
    rintro M ss r M' ⟨p, q, n, b, lo, hi, x, rfl, rfl, rfl, h1, h2, h3, h4, h5, h6, h7, rfl⟩ <;> rfl
  rintro M ss r M' ⟨p, q, n, b, lo, hi, x, rfl, rfl, rfl, h1, h2, h3, h4, h5, h6, h7, rfl⟩ F L σ H D hrt hnx hL o
  try dsimp only [cxOf]
  replace o : Ok K F L σ H [.loc (.ref p), .dat (dT2 lo hi), .dat (.int x)] (plM C n b p q) := o
  refine s_retMs (Mn := plM C n b p q) (M1 := plM C n b p q) (ev_if (b := decide (lo = hi)) (et_test (ev_eqI (ev_ixT (ds := [.int lo, .int hi]) (ev_varD rfl) ev_int rfl) (ev_ixT (ds := [.int lo, .int hi]) (ev_varD rfl) ev_int rfl))) (fun e => ?_) (fun e => ?_)) (fun y hy => hy) hrt o
  · have e' := of_decide_eq_true e
    subst e'
    exact ev_isD ev_int (by rw [Bst_one])
  · have e' := of_decide_eq_false e
    refine ev_isD (ev_ixI (ns := (List.range n).map fun (k : Nat) => Bst b n lo hi (1 + (k : Int))) (ev_plTable (ev_varL rfl) (ev_varD rfl) h1 (by omega) h3 h4 h5) (ev_sub (ev_varD rfl) ev_int) (by omega) (by rw [List.length_map, List.length_range]; omega)) ?_
    rw [List.getD_eq_getElem?_getD, List.getElem?_map, List.getElem?_range (by omega)]
    show PyData.int (Bst b n lo hi (1 + ((x - 1).toNat : Int))) = _
    rw [show (1 + ((x - 1).toNat : Int)) = x by omega]

abbrev s_Plans_with_news : Stmt := inClass (topS 38) 3
theorem sc_Plans_with_news : FnScope ["self", "stretch", "place", "best", "later", "some", "cost", "one"] ["self", "stretch", "place"] (defScope s_Plans_with_news) := ⟨rfl, rfl, rfl, by decide +kernel, rfl, by decide +kernel, by decide +kernel⟩
theorem ok_Plans_with_news {C : Addr} (Y : PlansC K mg C) (T : RawM K C "with_news" "Plans.with_news" s_Plans_with_news) (B : Bl mg) {k m : Nat} (h_Plans_parts : HasM P w K mg base C k "parts" ["self", "stretch", "place", "later"] (spMs K (R_parts C))) (h_Plans_cost : HasM P w K mg base C k "cost" ["self", "place", "later"] (spMs K (R_cost C))) (h_Plans_best : HasM P w K mg base C k "best" ["self", "stretch", "place"] (spMs K (R_best C m))) : HasM P w K mg base C (k + 1) "with_news" ["self", "stretch", "place"] (spMs K (R_news C m)) := by
  have c_Plans := Y.cl
  have g_Plans := Y.g
  obtain ⟨f, fd, Fn, Mt⟩ := T
  obtain ⟨_, _, G_Plans_parts, m_Plans_parts, b_Plans_parts⟩ := h_Plans_parts
  obtain ⟨_, _, G_Plans_cost, m_Plans_cost, b_Plans_cost⟩ := h_Plans_cost
  obtain ⟨_, _, G_Plans_best, m_Plans_best, b_Plans_best⟩ := h_Plans_best
  refine ⟨f, fd, okMs Fn sc_Plans_with_news ?len (fun cdv A outer s H E hr => ⟨_, (pss_cons (ps_set (i := 3) sc_Plans_with_news.nd rfl (by first | exact .inl rfl | exact .inr rfl) pe_non)
      (pss_cons (ps_for PassesOwn.never rfl (pi_range2 (by rfl) B.range_ (pa_cons pe_int (pa_cons (pe_op op_add (pe_fld (pv 0) rfl) pe_int) pa_nil))) (pg_name (i := 4) sc_Plans_with_news.nd rfl (by first | exact .inl rfl | exact .inr rfl))
      (pss_cons (ps_set (i := 5) sc_Plans_with_news.nd rfl (by first | exact .inl rfl | exact .inr rfl) (pe_meth (pv 0) c_Plans m_Plans_parts G_Plans_parts (hr.mono (by first | decide | omega)) b_Plans_parts .nil pass0 (pa_cons (pv 1) (pa_cons (pv 2) (pa_cons (pv 4) pa_nil)))))
      (pss_one (ps_if (pt_cmpR op_gt (pe_callB (w_len (K' := K) rfl) (by rfl) B.len_ (by decide +kernel) (pa_cons (pv 5) pa_nil)) pe_int (nomark _)) (pss_cons (ps_set (i := 6) sc_Plans_with_news.nd rfl (by first | exact .inl rfl | exact .inr rfl) (pe_op op_add (pe_meth (pv 0) c_Plans m_Plans_cost G_Plans_cost (hr.mono (by first | decide | omega)) b_Plans_cost .nil pass0 (pa_cons (pv 2) (pa_cons (pv 4) pa_nil))) (pe_callB (w_max (K' := K) rfl rfl) (by rfl) B.max_ (by decide +kernel) (pa_cons (pe_lc (own := [("one", 7)]) (g := gName 7) rfl sc_Plans_with_news.nd (wi_list (K' := K) rfl (pv 5)) (blkOk_by (own := [("one", 7)]) (N := ["self", "stretch", "place", "best", "later", "some", "cost", "one"]) (sc := defScope s_Plans_with_news) (by decide +kernel)) (fun _ _ _ _ _ => (pg_name (i := 7) sc_Plans_with_news.nd rfl (by first | exact .inl rfl | exact .inr rfl))) (fun _ _ _ _ _ => pts_nil) (fun _ _ _ _ _ => (pe_meth (pv 0) c_Plans m_Plans_best G_Plans_best (hr.mono (by first | decide | omega)) b_Plans_best .nil pass0 (pa_cons (pv 7) (pa_cons (pv 4) pa_nil))))) pa_nil))))
      (pss_one (ps_if (PW.pt (pw_or (pt_cmpR op_isN (pv 3) pe_non (nomark _)) (pw_or1 (pt_cmpR op_lt (pv 6) (pv 3) (nomark _))))) (pss_one (ps_set (i := 3) sc_Plans_with_news.nd rfl (by first | exact .inl rfl | exact .inr rfl) (pv 6))) pss_nil))) pss_nil))))
      (pss_one (ps_ret (pv 3))))), ?_⟩), Mt, Fn.binds fun _ _ _ _ _ _ us hl => match us, hl with | [_, _, _], _ => rfl⟩
  case len =>
    rintro M ss r M' ⟨p, q, n, b, lo, hi, x, rfl, rfl, rfl, h1, h2, h3, h4, h5, h6, h7, rfl⟩ <;> rfl
  rintro M ss r M' ⟨p, q, n, b, lo, hi, x, rfl, rfl, rfl, h1, h2, h3, h4, h5, h6, h7, rfl⟩ F L σ H D hrt hnx hL o
  try dsimp only [cxOf]
  replace o : Ok K F L σ H [.loc (.ref p), .dat (dT2 lo hi), .dat (.int x), .un, .un, .un, .un, .un] (plM C n b p q) := o
  refine q_asg0 ev_non (fun σ H o => ?_) o
  refine q_for0 (n := n) (item := fun k => .int (1 + (k : Nat))) (fun i ρ M => ∃ s4 s5 s6 s7, ρ = [.loc (.ref p), .dat (dT2 lo hi), .dat (.int x), .dat (optI (newsK (Bst b n) b lo hi x i)), s4, s5, s6, s7] ∧ M = plM C n b p q)
    ?ei (by wtm_at "eg") ⟨_, _, _, _, rfl, rfl⟩ (fun F' sF i hi' ρ M hJ σ H o => ?_) (fun ρ M hJ σ H o => ?_) o
  case ei =>
    have h := ei_rng2 (K := K) (ρ := [.loc (.ref p), .dat (dT2 lo hi), .dat (.int x), .dat .none, .un, .un, .un, .un]) (M := plM C n b p q) (M1 := plM C n b p q) (i := 1) (j := n + 1) (tr := tCons (tC (.int 1)) (tCons (tOp (rI0 fun i j => .int (i + j)) (tFld K (tVar 0) "length") (tC (.int 1))) tNil)) (EvA.cons ev_int (EvA.cons (ev_add (ev_plLen Y (ev_varL rfl) List.mem_cons_self) ev_int) EvA.nil)) (by omega)
    rw [show ((n : Int) + 1 - 1).toNat = n by omega] at h
    exact h
  · obtain ⟨s4, s5, s6, s7, rfl, rfl⟩ := hJ
    have hn : newsK (Bst b n) b lo hi x (i + 1) = newsStep (Bst b n) b lo hi x (newsK (Bst b n) b lo hi x i) (1 + (i : Int)) := rfl
    generalize newsK (Bst b n) b lo hi x i = acc at *
    generalize newsK (Bst b n) b lo hi x (i + 1) = acc' at *
    subst hn
    unfold newsStep
    have l1 : (1 : Int) ≤ 1 + (i : Int) := by omega
    have l2 : 1 + (i : Int) ≤ n := by omega
    generalize 1 + (i : Int) = l at *
    replace o : Ok K F' L σ H [.loc (.ref p), .dat (dT2 lo hi), .dat (.int x), .dat (optI acc), .dat (.int l), s5, s6, s7] (plM C n b p q) := o
    refine q_asg0 (ev_plParts (ev_varL rfl) (ev_varD rfl) (ev_varD rfl) (ev_varD rfl) h1 (by omega) h3 (by omega)) (fun σ H o => ?_) o
    replace o : Ok K F' L σ H [.loc (.ref p), .dat (dT2 lo hi), .dat (.int x), .dat (optI acc), .dat (.int l), .dat (.list (dCuts lo hi x l)), s6, s7] (plM C n b p q) := o
    refine s_if0 (b := decide (1 < (cutsOf lo hi x l).length)) (et_is (et_test (ev_gt (ev_lenL (EvA.cons (ev_varD rfl) EvA.nil)) ev_int)) (by rw [List.length_map]; exact decide_eq_decide.mpr (by omega))) (fun e H o => ?_) (fun e H o => ?_) o
    · have e := of_decide_eq_true e
      rw [if_pos e]
      refine q_asg0 (ev_add (ev_plCost (ev_varL rfl) (ev_varD rfl) (ev_varD rfl)) (ev_plWorst (m := m) rfl rfl rfl (by decide) (by decide) (by simp) h1 (by omega) h3 h4 l1 l2 (fun c hc => by have := cuts_lt (by omega) e hc; omega))) (fun σ H o => ?_) o
      generalize costOf b x l + worst (Bst b n) lo hi x l = v at *
      replace o : Ok K F' L σ H [.loc (.ref p), .dat (dT2 lo hi), .dat (.int x), .dat (optI acc), .dat (.int l), .dat (.list (dCuts lo hi x l)), .dat (.int v), s7] (plM C n b p q) := o
      cases acc with
      | none =>
        refine s_ifT0 (et_or (a := true) (b := true) (et_is (et_test (ev_isN (ev_varD rfl))) rfl) (fun z => nomatch z)) (fun H o => ?_) o
        refine s_asg0 (ev_varD rfl) (fun σ H o => ?_) o
        exact ⟨_, _, ⟨_, _, _, _, rfl, rfl⟩, o⟩
      | some a =>
        refine s_if0 (b := decide (v < a)) (et_is (et_or2 (a := false) (b := decide (v < a)) (et_is (et_test (ev_isN (d := .int a) (ev_varD rfl))) rfl) (et_test (ev_lt (i := v) (j := a) (ev_varD rfl) (ev_varD rfl)))) (Bool.false_or _)) (fun e H o => ?_) (fun e H o => ?_) o
        · refine s_asg0 (ev_varD rfl) (fun σ H o => ?_) o
          exact ⟨_, _, ⟨_, _, _, _, by dsimp only; rw [if_pos (of_decide_eq_true e)]; rfl, rfl⟩, o⟩
        · exact ⟨_, _, ⟨_, _, _, _, by dsimp only; rw [if_neg (of_decide_eq_false e)], rfl⟩, o⟩
    · have e := of_decide_eq_false e
      rw [if_neg e]
      exact ⟨_, _, ⟨_, _, _, _, rfl, rfl⟩, o⟩
  · obtain ⟨s4, s5, s6, s7, rfl, rfl⟩ := hJ
    exact s_retMs (Mn := plM C n b p q) (M1 := plM C n b p q) (ev_varD rfl) (fun y hy => hy) hrt o
section
variable {K : PySem.W.Frag} {ρ : List Sl} {M M1 : Ms} {tt : TT} {ta tb : TE} {tr : TA} {ds : List PyData} {p : Addr}
theorem evn_if {b : Bool} (h : EvT K tt ρ M b M) (h1 : b = true → EvN K ta ρ M ds M1) (h2 : b = false → EvN K tb ρ M ds M1) : EvN K (tIf tt ta tb) ρ M ds M1 := fun F L σ H o Q q => h F L σ H o _ fun H1 o1 e1 a1 => by
  cases b with
  | true => exact h1 rfl F L σ H1 o1 _ fun p vs H2 hp o2 e2 a2 g1 g2 => q p vs H2 (back_none o o1 e1 a1 hp) o2 e2 (chain2 e1 a1 a2) g1 g2
  | false => exact h2 rfl F L σ H1 o1 _ fun p vs H2 hp o2 e2 a2 g1 g2 => q p vs H2 (back_none o o1 e1 a1 hp) o2 e2 (chain2 e1 a1 a2) g1 g2
theorem ev_isN_opt {M1 : Ms} {o : Option Int} (ha : Ev K ta ρ M (.dat (optI o)) M1) : Ev K (tOp (fun x y H Q => y = .non ∧ Q (.bl (decide (x = .non))) H) ta (tC .non)) ρ M (.dat (.bool o.isNone)) M1 := by
  cases o with
  | none => exact ev_isN ha
  | some v => exact ev_isN ha
theorem ev_minM {ns : List Int} {m : Int} (ha : EvA K tr ρ M [.loc (.ref p)] M1) (hp : (p, MO.lst (ns.map PyData.int)) ∈ M1) (hm : m ∈ ns) (hx : ∀ y ∈ ns, m ≤ y) : Ev K (tCB (rMin K) tr) ρ M (.dat (.int m)) M1 := ev_cb ha fun F L σ H xs o hv Q q => by
  obtain ⟨v, rfl, h⟩ := one_of hv
  have ex : v = .ref p := h
  subst ex
  obtain ⟨vs, h1, h2⟩ := o.ob _ hp
  have e := dp_ints h2
  subst e
  refine ⟨p, ns, rfl, SqL.of h1, List.length_pos_of_mem hm, fun k hk hle => ?_⟩
  have e : k = m := Int.le_antisymm (hle m hm) (hx k hk)
  subst e
  exact q _ H (Same.refl H) (.int _)
end
/-- at most so many keys -/
theorem len_le_of_nodup {α : Type} [DecidableEq α] : ∀ (xs ys : List α), xs.Nodup → (∀ x ∈ xs, x ∈ ys) → xs.length ≤ ys.length
  | [], ys, _, _ => Nat.zero_le _
  | x :: xs, ys, nd, h => by
    have nd' := List.nodup_cons.mp nd
    have hx : x ∈ ys := h x List.mem_cons_self
    have := len_le_of_nodup xs (ys.erase x) nd'.2 fun y hy => (List.mem_erase_of_ne (fun e => nd'.1 (by rw [← e]; exact hy))).mpr (h y (List.mem_cons_of_mem _ hy))
    rw [List.length_erase_of_mem hx] at this
    have := List.length_pos_of_mem hx
    rw [List.length_cons]; omega
theorem Gd_len {b : Bool} {n : Nat} {kvs : List (List Key × PyData)} (h : Gd b n kvs) (hn : n ≤ 900) : kvs.length < 1000000 := by
  have a := len_le_of_nodup (kvs.map (·.1)) ((List.range n).flatMap fun (i : Nat) => (List.range n).map fun (j : Nat) => ([Sum.inl (1 + (i : Int)), Sum.inl (1 + (j : Int))] : List Key)) h.1 fun k hk => by
    obtain ⟨e, he, rfl⟩ := List.mem_map.mp hk
    obtain ⟨lo, hi, e1, h1, h2, h3, _⟩ := h.2 e he
    rw [e1]
    refine List.mem_flatMap.mpr ⟨(lo - 1).toNat, List.mem_range.mpr (by omega), List.mem_map.mpr ⟨(hi - 1).toNat, List.mem_range.mpr (by omega), ?_⟩⟩
    rw [show (1 + ((lo - 1).toNat : Int)) = lo by omega, show (1 + ((hi - 1).toNat : Int)) = hi by omega]
  have c : ∀ (xs : List Nat), (xs.flatMap fun (i : Nat) => (List.range n).map fun (j : Nat) => ([Sum.inl (1 + (i : Int)), Sum.inl (1 + (j : Int))] : List Key)).length = xs.length * n := fun xs => by
    induction xs with
    | nil => simp
    | cons x xs ih => rw [List.flatMap_cons, List.length_append, ih, List.length_map, List.length_range, List.length_cons, Nat.succ_mul, Nat.add_comm]
  rw [c, List.length_map, List.length_range] at a
  have : n * n ≤ 900 * 900 := Nat.mul_le_mul hn hn
  omega
theorem Gd_put {b : Bool} {n : Nat} {kvs : List (List Key × PyData)} (h : Gd b n kvs) {lo hi : Int} (h1 : 1 ≤ lo) (h2 : lo ≤ hi) (h3 : hi ≤ n) : Gd b n (putD kvs [.inl lo, .inl hi] (tabD b n lo hi)) := by
  constructor
  · rw [putD_keys]
    split
    · rename_i e
      refine List.nodup_append.mpr ⟨h.1, by simp, fun a ha c hc e2 => ?_⟩
      have e3 := List.mem_singleton.mp hc
      subst e2
      rw [e3] at ha
      exact valD_none e ha
    · exact h.1
  · intro e he
    unfold putD at he
    split at he
    · rcases List.mem_append.mp he with z | z
      · exact h.2 e z
      · have e3 := List.mem_singleton.mp z
        subst e3
        exact ⟨lo, hi, rfl, h1, h2, h3, rfl⟩
    · obtain ⟨a, ha, rfl⟩ := List.mem_map.mp he
      split
      · rename_i e; exact ⟨lo, hi, e, h1, h2, h3, rfl⟩
      · exact h.2 a ha
theorem Gd_get {b : Bool} {n : Nat} {kvs : List (List Key × PyData)} (h : Gd b n kvs) {lo hi : Int} {d : PyData} (e : valD kvs [.inl lo, .inl hi] = some d) : d = tabD b n lo hi := by
  obtain ⟨lo', hi', e1, _, _, _, e2⟩ := h.2 _ (valD_some e)
  dsimp only at e1 e2
  simp only [List.cons.injEq, Sum.inl.injEq, and_true] at e1
  rw [e2, e1.1, e1.2]
theorem atI_news {α : Type} {n : Nat} (f : Nat → α) {x : Int} (h1 : 1 ≤ x) (h2 : x ≤ n) : atI ((List.range n).map f) (x - 1) = some (f (x - 1).toNat) := by
  rw [atI_pos (by omega) (by rw [List.length_map, List.length_range]; omega), List.getElem?_map, List.getElem?_range (by omega)]
  rfl

abbrev s_Plans_table : Stmt := inClass (topS 38) 4
theorem sc_Plans_table : FnScope ["self", "stretch", "news", "found", "place", "some", "later", "cost"] ["self", "stretch"] (defScope s_Plans_table) := ⟨rfl, rfl, rfl, by decide +kernel, rfl, by decide +kernel, by decide +kernel⟩
theorem ok_Plans_table {C : Addr} (Y : PlansC K mg C) (T : RawM K C "table" "Plans.table" s_Plans_table) (B : Bl mg) {k m : Nat} (h_Plans_with_news : HasM P w K mg base C k "with_news" ["self", "stretch", "place"] (spMs K (R_news C m))) (h_Plans_cost : HasM P w K mg base C k "cost" ["self", "place", "later"] (spMs K (R_cost C))) : HasM P w K mg base C (k + 1) "table" ["self", "stretch"] (spMs K (R_table C (m + 1))) := by
  have c_Plans := Y.cl
  have g_Plans := Y.g
  obtain ⟨f, fd, Fn, Mt⟩ := T
  obtain ⟨_, _, G_Plans_with_news, m_Plans_with_news, b_Plans_with_news⟩ := h_Plans_with_news
  obtain ⟨_, _, G_Plans_cost, m_Plans_cost, b_Plans_cost⟩ := h_Plans_cost
  refine ⟨f, fd, okMs Fn sc_Plans_table ?len (fun cdv A outer s H E hr => ⟨_, (pss_cons (ps_if (pt_cmp (pc_dnotin (hu_of hr) (pv 1) (pe_fld (pv 0) rfl))) (pss_cons (ps_setLc (i := 2) (own := [("place", 4)]) (g := gName 4) rfl sc_Plans_table.nd rfl rfl (sw_true rfl rfl rfl (by decide +kernel)) (pi_range2 (by rfl) B.range_ (pa_cons pe_int (pa_cons (pe_op op_add (pe_fld (pv 0) rfl) pe_int) pa_nil))) (blkOk_by (own := [("place", 4)]) (N := ["self", "stretch", "news", "found", "place", "some", "later", "cost"]) (sc := defScope s_Plans_table) (by decide +kernel)) (fun _ _ _ _ _ => (pg_name (i := 4) sc_Plans_table.nd rfl (by first | exact .inl rfl | exact .inr rfl))) (fun _ _ _ _ _ => pts_nil) (fun _ _ _ _ _ => (pe_meth (pv 0) c_Plans m_Plans_with_news G_Plans_with_news (hr.mono (by first | decide | omega)) b_Plans_with_news .nil pass0 (pa_cons (pv 1) (pa_cons (pv 4) pa_nil)))))
      (pss_cons (ps_set (i := 3) sc_Plans_table.nd rfl (by first | exact .inl rfl | exact .inr rfl) (pe_lst pa_nil))
      (pss_cons (ps_for PassesOwn.never rfl (pi_range2 (by rfl) B.range_ (pa_cons pe_int (pa_cons (pe_op op_add (pe_fld (pv 0) rfl) pe_int) pa_nil))) (pg_name (i := 4) sc_Plans_table.nd rfl (by first | exact .inl rfl | exact .inr rfl))
      (pss_cons (ps_set (i := 5) sc_Plans_table.nd rfl (by first | exact .inl rfl | exact .inr rfl) (pe_ifExp (pt_cmpR op_isN (pe_ix (w_ixL (K' := K) rfl) (pv 2) (pe_op op_sub (pv 4) pe_int) (fun _ _ => rfl)) pe_non (nomark _)) (pe_lst pa_nil) (pe_lst (pa_cons (pe_ix (w_ixL (K' := K) rfl) (pv 2) (pe_op op_sub (pv 4) pe_int) (fun _ _ => rfl)) pa_nil))))
      (pss_cons (ps_for PassesOwn.never rfl (wi_enum (K' := K) rfl (by rfl) B.enumerate_ (pa_cons (pv 2) pa_nil)) (pg_tup rfl (pgs_cons (pg_name (i := 6) sc_Plans_table.nd rfl (by first | exact .inl rfl | exact .inr rfl)) (pgs_cons (pg_name (i := 7) sc_Plans_table.nd rfl (by first | exact .inl rfl | exact .inr rfl)) pgs_nil)))
      (pss_one (ps_if (PW.pt (pw_and (pt_cmpR op_notN (pv 7) pe_non (nomark _)) (pw_and1 (pt_cmpR op_ne (pe_op op_add (pv 6) pe_int) (pv 4) (nomark _))))) (pss_one (ps_expr (pe_bm PySem.F.plainAttrs_list PySem.F.slot_list_append PySem.F.type_list_append mt_append (pv 5) (pa_cons (pe_op op_add (pe_meth (pv 0) c_Plans m_Plans_cost G_Plans_cost (hr.mono (by first | decide | omega)) b_Plans_cost .nil pass0 (pa_cons (pv 4) (pa_cons (pe_op op_add (pv 6) pe_int) pa_nil))) (pv 7)) pa_nil)))) pss_nil)))
      (pss_one (ps_expr (pe_bm PySem.F.plainAttrs_list PySem.F.slot_list_append PySem.F.type_list_append mt_append (pv 3) (pa_cons (pe_callB (w_min (K' := K) rfl rfl) (by rfl) B.min_ (by decide +kernel) (pa_cons (pv 5) pa_nil)) pa_nil)))))))
      (pss_one (ps_dput (hu_of hr) (pe_fld (pv 0) rfl) (pv 1) (pv 3) rfl))))) pss_nil)
      (pss_one (ps_ret (pe_dget (hu_of hr) (pe_fld (pv 0) rfl) (pv 1) (fun _ _ => rfl))))), ?_⟩), Mt, Fn.binds fun _ _ _ _ _ _ us hl => match us, hl with | [_, _], _ => rfl⟩
  case len =>
    rintro M ss r M' ⟨p, q, n, b, lo, hi, rfl, rfl, rfl, h1, h2, h3, h4, h5, rfl⟩ <;> rfl
  rintro M ss r M' ⟨p, q, n, b, lo, hi, rfl, rfl, rfl, h1, h2, h3, h4, h5, rfl⟩ F L σ H D hrt hnx hL o
  try dsimp only [cxOf]
  replace o : Ok K F L σ H [.loc (.ref p), .dat (dT2 lo hi), .un, .un, .un, .un, .un, .un] (plM C n b p q) := o
  have fin : ∀ (F' : Hp), Same F F' → ∀ (kvs : List (List Key × PyData)) (s2 s3 s4 s5 s6 s7 : Sl) σ H, Gd b n kvs → valD kvs [.inl lo, .inl hi] = some (tabD b n lo hi) → Ok K F' L σ H [.loc (.ref p), .dat (dT2 lo hi), s2, s3, s4, s5, s6, s7] [(p, plO C n b q), (q, .dT kvs)] →
      tRet (tDGet (tFld K (tVar 0) "known") (tVar 1)) D σ H := fun F' sF kvs s2 s3 s4 s5 s6 s7 σ H hG hv o => by
    refine s_ret (ev_dgetT (k := [.inl lo, .inl hi]) (kvs := kvs) (ev_plKn Y (ev_varL rfl) List.mem_cons_self) (ev_varD rfl) (List.mem_cons_of_mem _ List.mem_cons_self) hv) (fun v H1 o1 x1 => ?_) o
    have o2 := o1.closeP (j := 1) rfl hG
    exact hrt v H1 (sF.trans o2.fr) (o2.mobs (Mn := plM C n b p q) fun y hy => hy) (Dp.mono (hid_sub fun _ z => List.mem_append_left _ z) x1)
  obtain ⟨kvs, hG, o⟩ := o.openP (j := 1) rfl
  replace o : Ok K F L σ H [.loc (.ref p), .dat (dT2 lo hi), .un, .un, .un, .un, .un, .un] [(p, plO C n b q), (q, .dT kvs)] := o
  refine q_if10 (et_dNotInT (k := [.inl lo, .inl hi]) (kvs := kvs) (ev_varD rfl) (ev_plKn Y (ev_varL rfl) List.mem_cons_self) (List.mem_cons_of_mem _ List.mem_cons_self)) (fun e H o => ?_) (fun e H o => ?_) o
  · replace o : Ok K F L σ H [.loc (.ref p), .dat (dT2 lo hi), .un, .un, .un, .un, .un, .un] (plM C n b p q) := o.closeP (j := 1) rfl hG
    -- news
    refine q_assoc (q_asg0 (s := .dat (.list ((List.range n).map fun (k : Nat) => optI (nws b n lo hi (1 + (k : Int)))))) (EvN.ev (evn_lcP (n := n) (item := fun k => .int (1 + (k : Nat))) (fun (k : Nat) => optI (nws b n lo hi (1 + (k : Int)))) ?ei (by wtm_at "eg") (by simp) (fun i hi' => ?el) (by omega))) (fun σ H o => ?_) o)
    case ei =>
      have h := ei_rng2 (K := K) (ρ := [.loc (.ref p), .dat (dT2 lo hi), .un, .un, .un, .un, .un, .un]) (M := plM C n b p q) (M1 := plM C n b p q) (i := 1) (j := n + 1) (tr := tCons (tC (.int 1)) (tCons (tOp (rI0 fun i j => .int (i + j)) (tFld K (tVar 0) "length") (tC (.int 1))) tNil)) (EvA.cons ev_int (EvA.cons (ev_add (ev_plLen Y (ev_varL rfl) List.mem_cons_self) ev_int) EvA.nil)) (by omega)
      rw [show ((n : Int) + 1 - 1).toNat = n by omega] at h
      exact h
    case el => exact ev_plNews (m := m) (ev_varL rfl) (ev_varD rfl) (ev_varD rfl) h1 h2 h3 (by omega) (by omega) (by omega) (by omega)
    generalize hnews : ((List.range n).map fun (k : Nat) => optI (nws b n lo hi (1 + (k : Int)))) = news at *
    have nlen : news.length = n := by rw [← hnews, List.length_map, List.length_range]
    replace o : Ok K F L σ H [.loc (.ref p), .dat (dT2 lo hi), .dat (.list news), .un, .un, .un, .un, .un] (plM C n b p q) := o
    -- found
    refine q_assoc (q_asgNF (ds := []) (M1 := plM C n b p q) (evn_lst (ds := []) EvA.nil) (fun f σ H hf o => ?_) o)
    replace o : Ok K F L σ H [.loc (.ref p), .dat (dT2 lo hi), .dat (.list news), .loc (.ref f), .un, .un, .un, .un] ((p, plO C n b q) :: (q, .dP (Gd b n)) :: [(f, .lst [])]) := o
    refine q_assoc (q_for0 (n := n) (item := fun k => .int (1 + (k : Nat))) (fun i ρ M => ∃ s4 s5 s6 s7, ρ = [.loc (.ref p), .dat (dT2 lo hi), .dat (.list news), .loc (.ref f), s4, s5, s6, s7] ∧ M = (p, plO C n b q) :: (q, .dP (Gd b n)) :: [(f, .lst (((List.range i).map fun (k : Nat) => Bst b n lo hi (1 + (k : Int))).map PyData.int))])
      ?ei2 (by wtm_at "eg") ⟨_, _, _, _, rfl, rfl⟩ (fun F' sF i hi' ρ M hJ σ H o => ?_) (fun ρ M hJ σ H o => ?_) o)
    case ei2 =>
      have h := ei_rng2 (K := K) (ρ := [.loc (.ref p), .dat (dT2 lo hi), .dat (.list news), .loc (.ref f), .un, .un, .un, .un]) (M := (p, plO C n b q) :: (q, .dP (Gd b n)) :: [(f, .lst [])]) (M1 := (p, plO C n b q) :: (q, .dP (Gd b n)) :: [(f, .lst [])]) (i := 1) (j := n + 1) (tr := tCons (tC (.int 1)) (tCons (tOp (rI0 fun i j => .int (i + j)) (tFld K (tVar 0) "length") (tC (.int 1))) tNil)) (EvA.cons ev_int (EvA.cons (ev_add (ev_plLen Y (ev_varL rfl) List.mem_cons_self) ev_int) EvA.nil)) (by omega)
      rw [show ((n : Int) + 1 - 1).toNat = n by omega] at h
      exact h
    · obtain ⟨s4, s5, s6, s7, rfl, rfl⟩ := hJ
      generalize hfd : (((List.range i).map fun (k : Nat) => Bst b n lo hi (1 + (k : Int))).map PyData.int) = fd at *
      have fdl : fd.length = i := by rw [← hfd, List.length_map, List.length_map, List.length_range]
      have hfd2 : (((List.range (i + 1)).map fun (k : Nat) => Bst b n lo hi (1 + (k : Int))).map PyData.int) = fd ++ [.int (Bst b n lo hi (1 + (i : Int)))] := by
        rw [List.range_succ, List.map_append, List.map_append, hfd]; rfl
      rw [hfd2]
      have l1 : (1 : Int) ≤ 1 + (i : Int) := by omega
      have l2 : 1 + (i : Int) ≤ n := by omega
      generalize 1 + (i : Int) = x at *
      replace o : Ok K F' L σ H [.loc (.ref p), .dat (dT2 lo hi), .dat (.list news), .loc (.ref f), .dat (.int x), s5, s6, s7] ((p, plO C n b q) :: (q, .dP (Gd b n)) :: [(f, .lst fd)]) := o
      have hix : ∀ {s5 s6 s7 : Sl} {M : Ms}, Ev K (tOp (rIxL K) (tVar 2) (tOp (rI0 fun i j => .int (i - j)) (tVar 4) (tC (.int 1)))) [.loc (.ref p), .dat (dT2 lo hi), .dat (.list news), .loc (.ref f), .dat (.int x), s5, s6, s7] M (.dat (optI (nws b n lo hi x))) M := fun {s5 s6 s7 M} =>
        ev_ixL (ev_varD rfl) (ev_sub (ev_varD rfl) ev_int) (by rw [← hnews, atI_news _ l1 l2, show (1 + ((x - 1).toNat : Int)) = x by omega])
      refine q_asgN0 (ds := (someK b (nws b n lo hi) x 0).map PyData.int) (evn_if (b := (nws b n lo hi x).isNone) (et_test (ev_isN_opt hix)) (fun e => ?_) (fun e => ?_)) (fun t σ H o => ?_) o
      · cases hv : nws b n lo hi x with
        | none => exact evn_is (evn_lst (ds := []) EvA.nil) (by unfold someK; rw [hv]; rfl)
        | some v => rw [hv] at e; cases e
      · cases hv : nws b n lo hi x with
        | none => rw [hv] at e; cases e
        | some v => exact evn_is (evn_lstD (ds := [.int v]) (ed_cons (by rw [hv] at hix; exact hix) ed_nil) (by simp)) (by unfold someK; rw [hv]; rfl)
      replace o : Ok K F' L σ H [.loc (.ref p), .dat (dT2 lo hi), .dat (.list news), .loc (.ref f), .dat (.int x), .loc (.ref t), s6, s7] ((p, plO C n b q) :: (q, .dP (Gd b n)) :: [(f, .lst fd), (t, .lst ((someK b (nws b n lo hi) x 0).map PyData.int))]) := o
      refine q_for0 (n := n) (item := fun k => .tuple [.int (k : Nat), optI (nws b n lo hi (1 + (k : Int)))]) (fun k ρ M => ∃ s6 s7, ρ = [.loc (.ref p), .dat (dT2 lo hi), .dat (.list news), .loc (.ref f), .dat (.int x), .loc (.ref t), s6, s7] ∧ M = (p, plO C n b q) :: (q, .dP (Gd b n)) :: [(f, .lst fd), (t, .lst ((someK b (nws b n lo hi) x k).map PyData.int))])
        ?ei3 (by wtm_at "eg") ⟨_, _, rfl, rfl⟩ (fun F2 sF2 k hk ρ M hJ σ H o => ?_) (fun ρ M hJ σ H o => ?_) o
      case ei3 =>
        have h := ei_enum (K := K) (ρ := [.loc (.ref p), .dat (dT2 lo hi), .dat (.list news), .loc (.ref f), .dat (.int x), .loc (.ref t), s6, s7]) (M := (p, plO C n b q) :: (q, .dP (Gd b n)) :: [(f, .lst fd), (t, .lst ((someK b (nws b n lo hi) x 0).map PyData.int))]) (M1 := (p, plO C n b q) :: (q, .dP (Gd b n)) :: [(f, .lst fd), (t, .lst ((someK b (nws b n lo hi) x 0).map PyData.int))]) (ds := news) (tr := tCons (tVar 2) tNil) (EvA.cons (ev_varD rfl) EvA.nil)
        rw [nlen] at h
        refine h.congr fun k hk => ?_
        rw [← hnews, List.getD_eq_getElem?_getD, List.getElem?_map, List.getElem?_range hk]; rfl
      · obtain ⟨s6, s7, rfl, rfl⟩ := hJ
        have hsk : someK b (nws b n lo hi) x (k + 1) = match nws b n lo hi (1 + (k : Int)) with
          | none => someK b (nws b n lo hi) x k
          | some v => if (1 + (k : Int)) = x then someK b (nws b n lo hi) x k else someK b (nws b n lo hi) x k ++ [costOf b x (1 + (k : Int)) + v] := rfl
        have skl : ∀ k : Nat, (someK b (nws b n lo hi) x k).length ≤ k + 1 := fun k => by
          induction k with
          | zero => unfold someK; split <;> simp
          | succ k ih =>
            unfold someK
            split
            · omega
            · split
              · omega
              · rw [List.length_append, List.length_singleton]; omega
        have skl := skl k
        replace o : Ok K F2 L σ H [.loc (.ref p), .dat (dT2 lo hi), .dat (.list news), .loc (.ref f), .dat (.int x), .loc (.ref t), .dat (.int (k : Nat)), .dat (optI (nws b n lo hi (1 + (k : Int))))] ((p, plO C n b q) :: (q, .dP (Gd b n)) :: [(f, .lst fd), (t, .lst ((someK b (nws b n lo hi) x k).map PyData.int))]) := o
        rw [hsk]
        cases hv : nws b n lo hi (1 + (k : Int)) with
        | none =>
          rw [hv] at o
          refine s_ifF0 (et_and (a := false) (b := false) (et_is (et_test (ev_notN (d := .none) (ev_varD rfl))) rfl) (fun z => nomatch z)) (fun H o => ?_) o
          exact ⟨_, _, ⟨_, _, rfl, rfl⟩, o⟩
        | some v =>
          rw [hv] at o
          refine s_if0 (b := !decide ((k : Int) + 1 = x)) (et_is (et_and2 (a := true) (et_is (et_test (ev_notN (d := .int v) (ev_varD rfl))) rfl) (et_test (ev_neI (ev_add (ev_varD rfl) ev_int) (ev_varD rfl)))) (Bool.true_and _)) (fun e H o => ?_) (fun e H o => ?_) o
          · have e : ¬ ((k : Int) + 1 = x) := by simpa using e
            dsimp only
            rw [if_neg (by omega)]
            refine s_app (j := 3) (d := .int (costOf b x (1 + (k : Int)) + v)) (ds := (someK b (nws b n lo hi) x k).map PyData.int) (ev_varL rfl) (ev_add (ev_plCost (ev_varL rfl) (ev_varD rfl) (ev_isD (ev_add (ev_varD rfl) ev_int) (by rw [Int.add_comm]))) (ev_varD rfl)) rfl rfl (by rw [List.length_map]; omega) (fun σ H o => ?_) o
            exact ⟨_, _, ⟨_, _, rfl, by rw [List.map_append]; rfl⟩, o⟩
          · have e : (k : Int) + 1 = x := by simpa using e
            dsimp only
            rw [if_pos (by omega)]
            exact ⟨_, _, ⟨_, _, rfl, rfl⟩, o⟩
      · obtain ⟨s6, s7, rfl, rfl⟩ := hJ
        have hne : someK b (nws b n lo hi) x n ≠ [] := fun e => by
          obtain ⟨v, hv⟩ := nws_lo (b := b) h1 h2 h3
          by_cases g : lo = x
          · subst g
            have := (someK_mem (b := b) (news := nws b n lo hi) (p := lo) (x := v) n).mpr (.inl hv)
            rw [e] at this; cases this
          · have := (someK_mem (b := b) (news := nws b n lo hi) (p := x) (x := costOf b x lo + v) n).mpr (.inr ⟨lo, v, h1, by omega, g, hv, rfl⟩)
            rw [e] at this; cases this
        have hB : mnL (someK b (nws b n lo hi) x n) = Bst b n lo hi x := (Bst_eq h2).symm
        refine s_app (j := 2) (d := .int (Bst b n lo hi x)) (ds := fd) (ev_varL rfl) (ev_minM (ns := someK b (nws b n lo hi) x n) (EvA.cons (ev_varL rfl) EvA.nil) (List.mem_cons_of_mem _ (List.mem_cons_of_mem _ (List.mem_cons_of_mem _ List.mem_cons_self))) (by rw [← hB]; exact mnL_mem hne) (fun y hy => by rw [← hB]; exact mnL_le hy)) rfl rfl (by omega) (fun σ H o => ?_) o
        exact ⟨_, _, ⟨_, _, _, _, rfl, rfl⟩, Ok.forget (M := (p, plO C n b q) :: (q, .dP (Gd b n)) :: [(f, .lst (fd ++ [.int (Bst b n lo hi x)]))]) (M1 := [(t, _)]) o⟩
    · obtain ⟨s4, s5, s6, s7, rfl, rfl⟩ := hJ
      replace o : Ok K F L σ H [.loc (.ref p), .dat (dT2 lo hi), .dat (.list news), .dat (tabD b n lo hi), s4, s5, s6, s7] (plM C n b p q) := o.freeze 2 rfl hf (.same (.same (.same (.here (.same (.same (.same (.same .nil))))))))
      obtain ⟨kvs, hG, o⟩ := o.openP (j := 1) rfl
      refine q_dputT (k := [.inl lo, .inl hi]) (j := 1) (kvs := kvs) (d := tabD b n lo hi) (ev_varD rfl) (ev_plKn Y (ev_varL rfl) List.mem_cons_self) (ev_varD rfl) rfl (Gd_len hG h4) (fun H o => ?_) o
      exact fin F (Same.refl _) (putD kvs [.inl lo, .inl hi] (tabD b n lo hi)) _ _ _ _ _ _ σ H (Gd_put hG h1 (by omega) h3) (by rw [valD_put, if_pos rfl]) o
  · cases hv : valD kvs [.inl lo, .inl hi] with
    | none => rw [hv] at e; cases e
    | some d =>
      have ed := Gd_get hG hv
      subst ed
      exact fin F (Same.refl _) kvs _ _ _ _ _ _ σ H hG hv o
def goodM (b : Bool) (n : Nat) (lo hi x l : Int) : Bool := decide (costOf b x l + worst (Bst b n) lo hi x l = Bst b n lo hi x) && !decide (l = x)
def firstFrom (g : Int → Bool) : Nat → Int → Option Int
  | 0, _ => none
  | j + 1, l => if g l = true then some l else firstFrom g j (l + 1)
theorem firstFrom_some {g : Int → Bool} : ∀ {j : Nat} {a l : Int}, firstFrom g j a = some l → a ≤ l ∧ l < a + j ∧ g l = true ∧ ∀ m, a ≤ m → m < l → g m = false
  | 0, _, _, e => by cases e
  | j + 1, a, l, e => by
    unfold firstFrom at e
    by_cases h : g a = true
    · rw [if_pos h] at e
      cases e
      exact ⟨Int.le_refl _, by omega, h, fun m h1 h2 => by omega⟩
    · rw [if_neg h] at e
      obtain ⟨h1, h2, h3, h4⟩ := firstFrom_some e
      refine ⟨by omega, by omega, h3, fun m g1 g2 => ?_⟩
      by_cases e : m = a
      · subst e; simpa using h
      · exact h4 m (by omega) g2
theorem firstFrom_none {g : Int → Bool} : ∀ {j : Nat} {a : Int}, firstFrom g j a = none → ∀ m, a ≤ m → m < a + j → g m = false
  | 0, _, _ => fun m h1 h2 => by omega
  | j + 1, a, e => fun m h1 h2 => by
    unfold firstFrom at e
    by_cases h : g a = true
    · rw [if_pos h] at e; cases e
    · rw [if_neg h] at e
      by_cases e2 : m = a
      · subst e2; simpa using h
      · exact firstFrom_none e m (by omega) (by omega)
def fmv (b : Bool) (n : Nat) (lo hi x : Int) : Option Int := firstFrom (goodM b n lo hi x) n 1
section
variable {b : Bool} {n : Nat} {lo hi x : Int}
/-- the told place: the first of the best ones -/
theorem fmv_at (h1 : 1 ≤ lo) (h : lo < hi) (h2 : hi ≤ n) (p1 : 1 ≤ x) (p2 : x ≤ n) : ∃ l, fmv b n lo hi x = some l ∧ 1 ≤ l ∧ l ≤ n ∧ l ≠ x ∧ costOf b x l + worst (Bst b n) lo hi x l = Bst b n lo hi x ∧ ∀ m, 1 ≤ m → m < l → m ≠ x → costOf b x m + worst (Bst b n) lo hi x m ≠ Bst b n lo hi x := by
  cases e : fmv b n lo hi x with
  | none =>
    obtain ⟨l, l1, l2, l3, l4⟩ := Bst_at (b := b) h1 h h2 p1 p2
    have := firstFrom_none e l l1 (by omega)
    unfold goodM at this
    simp [l3, l4] at this
  | some l =>
    obtain ⟨a1, a2, a3, a4⟩ := firstFrom_some e
    unfold goodM at a3
    simp only [Bool.and_eq_true, decide_eq_true_eq, Bool.not_eq_true', decide_eq_false_iff_not] at a3
    refine ⟨l, rfl, a1, by omega, a3.2, a3.1, fun m m1 m2 m3 m4 => ?_⟩
    have := a4 m m1 m2
    unfold goodM at this
    simp [m3, m4] at this
end
def R_first (C : Addr) (m : Nat) (M : Ms) (ss : List Sl) (r : PyData) (M' : Ms) : Prop := ∃ (p q : Addr) (n : Nat) (b : Bool) (lo hi x : Int), M = plM C n b p q ∧ M' = plM C n b p q ∧ ss = [.loc (.ref p), .dat (dT2 lo hi), .dat (.int x)] ∧ 1 ≤ lo ∧ lo ≤ hi ∧ hi ≤ n ∧ n ≤ 900 ∧ hi - lo ≤ m ∧ 1 ≤ x ∧ x ≤ n ∧ r = optI (fmv b n lo hi x)
theorem ev_plFirst {K : PySem.W.Frag} {C p q : Addr} {n m : Nat} {b : Bool} {ρ : List Sl} {Mr : Ms} {ta tb tc : TE} {lo hi x : Int} {E : XK} (ha : Ev K ta ρ ((p, plO C n b q) :: (q, .dP (Gd b n)) :: Mr) (.loc (.ref p)) ((p, plO C n b q) :: (q, .dP (Gd b n)) :: Mr))
    (hb : Ev K tb ρ ((p, plO C n b q) :: (q, .dP (Gd b n)) :: Mr) (.dat (dT2 lo hi)) ((p, plO C n b q) :: (q, .dP (Gd b n)) :: Mr)) (hc : Ev K tc ρ ((p, plO C n b q) :: (q, .dP (Gd b n)) :: Mr) (.dat (.int x)) ((p, plO C n b q) :: (q, .dP (Gd b n)) :: Mr))
    (h1 : 1 ≤ lo) (h2 : lo ≤ hi) (h3 : hi ≤ n) (h4 : n ≤ 900) (h5 : hi - lo ≤ m) (h6 : 1 ≤ x) (h7 : x ≤ n) :
    Ev K (tMeth C "first_move" (spMs K (R_first C m)) [] E ta (tCons tb (tCons tc tNil))) ρ ((p, plO C n b q) :: (q, .dP (Gd b n)) :: Mr) (.dat (optI (fmv b n lo hi x))) ((p, plO C n b q) :: (q, .dP (Gd b n)) :: Mr) :=
  ev_plM (by decide +kernel) ha (EvA.cons hb (EvA.cons hc EvA.nil)) ⟨p, q, n, b, lo, hi, x, rfl, rfl, rfl, h1, h2, h3, h4, h5, h6, h7, rfl⟩

abbrev s_Plans_first_move : Stmt := inClass (topS 38) 6
theorem sc_Plans_first_move : FnScope ["self", "stretch", "place", "later", "some", "one"] ["self", "stretch", "place"] (defScope s_Plans_first_move) := ⟨rfl, rfl, rfl, by decide +kernel, rfl, by decide +kernel, by decide +kernel⟩
theorem ok_Plans_first_move {C : Addr} (Y : PlansC K mg C) (T : RawM K C "first_move" "Plans.first_move" s_Plans_first_move) (B : Bl mg) {k m : Nat} (h_Plans_parts : HasM P w K mg base C k "parts" ["self", "stretch", "place", "later"] (spMs K (R_parts C))) (h_Plans_cost : HasM P w K mg base C k "cost" ["self", "place", "later"] (spMs K (R_cost C))) (h_Plans_best : HasM P w K mg base C k "best" ["self", "stretch", "place"] (spMs K (R_best C m))) : HasM P w K mg base C (k + 1) "first_move" ["self", "stretch", "place"] (spMs K (R_first C m)) := by
  have c_Plans := Y.cl
  have g_Plans := Y.g
  obtain ⟨f, fd, Fn, Mt⟩ := T
  obtain ⟨_, _, G_Plans_parts, m_Plans_parts, b_Plans_parts⟩ := h_Plans_parts
  obtain ⟨_, _, G_Plans_cost, m_Plans_cost, b_Plans_cost⟩ := h_Plans_cost
  obtain ⟨_, _, G_Plans_best, m_Plans_best, b_Plans_best⟩ := h_Plans_best
  refine ⟨f, fd, okMs Fn sc_Plans_first_move ?len (fun cdv A outer s H E hr => ⟨_, (pss_cons (ps_for PassesOwn.never rfl (pi_range2 (by rfl) B.range_ (pa_cons pe_int (pa_cons (pe_op op_add (pe_fld (pv 0) rfl) pe_int) pa_nil))) (pg_name (i := 3) sc_Plans_first_move.nd rfl (by first | exact .inl rfl | exact .inr rfl))
      (pss_cons (ps_set (i := 4) sc_Plans_first_move.nd rfl (by first | exact .inl rfl | exact .inr rfl) (pe_meth (pv 0) c_Plans m_Plans_parts G_Plans_parts (hr.mono (by first | decide | omega)) b_Plans_parts .nil pass0 (pa_cons (pv 1) (pa_cons (pv 2) (pa_cons (pv 3) pa_nil)))))
      (pss_one (ps_if (pt_cmpR op_eq (pe_op op_add (pe_meth (pv 0) c_Plans m_Plans_cost G_Plans_cost (hr.mono (by first | decide | omega)) b_Plans_cost .nil pass0 (pa_cons (pv 2) (pa_cons (pv 3) pa_nil))) (pe_callB (w_max (K' := K) rfl rfl) (by rfl) B.max_ (by decide +kernel) (pa_cons (pe_lc (own := [("one", 5)]) (g := gName 5) rfl sc_Plans_first_move.nd (wi_list (K' := K) rfl (pv 4)) (blkOk_by (own := [("one", 5)]) (N := ["self", "stretch", "place", "later", "some", "one"]) (sc := defScope s_Plans_first_move) (by decide +kernel)) (fun _ _ _ _ _ => (pg_name (i := 5) sc_Plans_first_move.nd rfl (by first | exact .inl rfl | exact .inr rfl))) (fun _ _ _ _ _ => pts_nil) (fun _ _ _ _ _ => (pe_meth (pv 0) c_Plans m_Plans_best G_Plans_best (hr.mono (by first | decide | omega)) b_Plans_best .nil pass0 (pa_cons (pv 5) (pa_cons (pv 3) pa_nil))))) pa_nil))) (pe_meth (pv 0) c_Plans m_Plans_best G_Plans_best (hr.mono (by first | decide | omega)) b_Plans_best .nil pass0 (pa_cons (pv 1) (pa_cons (pv 2) pa_nil))) (nomark _)) (pss_one (ps_if (pt_cmpR op_ne (pv 3) (pv 2) (nomark _)) (pss_one (ps_ret (pv 3))) pss_nil)) pss_nil))))
      (pss_one (ps_ret pe_non))), ?_⟩), Mt, Fn.binds fun _ _ _ _ _ _ us hl => match us, hl with | [_, _, _], _ => rfl⟩
  case len =>
    rintro M ss r M' ⟨p, q, n, b, lo, hi, x, rfl, rfl, rfl, h1, h2, h3, h4, h5, h6, h7, rfl⟩ <;> rfl
  rintro M ss r M' ⟨p, q, n, b, lo, hi, x, rfl, rfl, rfl, h1, h2, h3, h4, h5, h6, h7, rfl⟩ F L σ H D hrt hnx hL o
  try dsimp only [cxOf]
  replace o : Ok K F L σ H [.loc (.ref p), .dat (dT2 lo hi), .dat (.int x), .un, .un, .un] (plM C n b p q) := o
  refine q_for0 (n := n) (item := fun k => .int (1 + (k : Nat))) (fun i ρ M => ∃ s3 s4 s5, fmv b n lo hi x = firstFrom (goodM b n lo hi x) (n - i) (1 + (i : Int)) ∧ i ≤ n ∧ ρ = [.loc (.ref p), .dat (dT2 lo hi), .dat (.int x), s3, s4, s5] ∧ M = plM C n b p q)
    ?ei (by wtm_at "eg") ⟨_, _, _, rfl, Nat.zero_le _, rfl, rfl⟩ (fun F' sF i hi' ρ M hJ σ H o => ?_) (fun ρ M hJ σ H o => ?_) o
  case ei =>
    have h := ei_rng2 (K := K) (ρ := [.loc (.ref p), .dat (dT2 lo hi), .dat (.int x), .un, .un, .un]) (M := plM C n b p q) (M1 := plM C n b p q) (i := 1) (j := n + 1) (tr := tCons (tC (.int 1)) (tCons (tOp (rI0 fun i j => .int (i + j)) (tFld K (tVar 0) "length") (tC (.int 1))) tNil)) (EvA.cons ev_int (EvA.cons (ev_add (ev_plLen Y (ev_varL rfl) List.mem_cons_self) ev_int) EvA.nil)) (by omega)
    rw [show ((n : Int) + 1 - 1).toNat = n by omega] at h
    exact h
  · obtain ⟨s3, s4, s5, hf, hin, rfl, rfl⟩ := hJ
    obtain ⟨j, hj⟩ : ∃ j, n - i = j + 1 := ⟨n - i - 1, by omega⟩
    rw [hj] at hf
    unfold firstFrom at hf
    have l1 : (1 : Int) ≤ 1 + (i : Int) := by omega
    have l2 : 1 + (i : Int) ≤ n := by omega
    have hnx' : goodM b n lo hi x (1 + (i : Int)) = false → ∀ (s4 s5 : Sl) σ H, Ok K F' L σ H [.loc (.ref p), .dat (dT2 lo hi), .dat (.int x), .dat (.int (1 + (i : Int))), s4, s5] (plM C n b p q) → ∃ ρ M, (∃ s3 s4 s5, fmv b n lo hi x = firstFrom (goodM b n lo hi x) (n - (i + 1)) (1 + ((i + 1 : Nat) : Int)) ∧ i + 1 ≤ n ∧ ρ = [.loc (.ref p), .dat (dT2 lo hi), .dat (.int x), s3, s4, s5] ∧ M = plM C n b p q) ∧ Ok K F' L σ H ρ M := fun hg s4 s5 σ H o => by
      refine ⟨_, _, ⟨_, _, _, ?_, by omega, rfl, rfl⟩, o⟩
      rw [hf, if_neg (by rw [hg]; exact Bool.false_ne_true), show n - (i + 1) = j by omega, show (1 + ((i + 1 : Nat) : Int)) = 1 + (i : Int) + 1 by omega]
    have hyes : goodM b n lo hi x (1 + (i : Int)) = true → fmv b n lo hi x = some (1 + (i : Int)) := fun hg => by rw [hf, if_pos hg]
    have hgd : goodM b n lo hi x (1 + (i : Int)) = (decide (costOf b x (1 + (i : Int)) + worst (Bst b n) lo hi x (1 + (i : Int)) = Bst b n lo hi x) && !decide (1 + (i : Int) = x)) := rfl
    generalize 1 + (i : Int) = l at *
    replace o : Ok K F' L σ H [.loc (.ref p), .dat (dT2 lo hi), .dat (.int x), .dat (.int l), s4, s5] (plM C n b p q) := o
    refine q_asg0 (ev_plParts (ev_varL rfl) (ev_varD rfl) (ev_varD rfl) (ev_varD rfl) h1 h2 h3 (by omega)) (fun σ H o => ?_) o
    replace o : Ok K F' L σ H [.loc (.ref p), .dat (dT2 lo hi), .dat (.int x), .dat (.int l), .dat (.list (dCuts lo hi x l)), s5] (plM C n b p q) := o
    refine s_if0 (b := decide (costOf b x l + worst (Bst b n) lo hi x l = Bst b n lo hi x)) (et_test (ev_eqI (ev_add (ev_plCost (ev_varL rfl) (ev_varD rfl) (ev_varD rfl)) (ev_plWorst (m := m) rfl rfl rfl (by decide) (by decide) (by simp) h1 h2 h3 h4 l1 l2 (fun c hc => by have := cuts_sub h2 hc; omega))) (ev_plBest (m := m) (ev_varL rfl) (ev_varD rfl) (ev_varD rfl) h1 h2 h3 h4 h5 h6 h7))) (fun e H o => ?_) (fun e H o => ?_) o
    · rw [e, Bool.true_and] at hgd
      refine s_if0 (b := !decide (l = x)) (et_test (ev_neI (ev_varD rfl) (ev_varD rfl))) (fun e2 H o => ?_) (fun e2 H o => ?_) o
      · rw [e2] at hgd
        rw [hyes hgd] at hrt
        exact s_retMs (Mn := plM C n b p q) (M1 := plM C n b p q) (ev_varD rfl) (fun y hy => hy) (fun v H1 s1 => hrt v H1 (sF.trans s1)) o
      · rw [e2] at hgd
        exact hnx' hgd _ _ _ _ o
    · rw [e] at hgd
      exact hnx' hgd _ _ _ _ o
  · obtain ⟨s3, s4, s5, hf, hin, rfl, rfl⟩ := hJ
    rw [Nat.sub_self] at hf
    rw [hf] at hrt
    exact s_retMs (Mn := plM C n b p q) (M1 := plM C n b p q) ev_non (fun y hy => hy) hrt o
/-- the methods that call one another: by the stretch's length -/
theorem plans_all {P : Program} {w : World} {K : PySem.W.Frag} {mg : Str → Option Value} {base : Heap} {C : Addr} (Y : PlansC K mg C) (B : Bl mg) (h_answer : Has P w K mg base 2 "answer" ["thing", "before", "now"] (spP K R_answer))
    (Tc : RawM K C "cost" "Plans.cost" s_Plans_cost) (Tp : RawM K C "parts" "Plans.parts" s_Plans_parts) (Tn : RawM K C "with_news" "Plans.with_news" s_Plans_with_news) (Tt : RawM K C "table" "Plans.table" s_Plans_table) (Tb : RawM K C "best" "Plans.best" s_Plans_best) (Tf : RawM K C "first_move" "Plans.first_move" s_Plans_first_move) :
    HasM P w K mg base C 48 "table" ["self", "stretch"] (spMs K (R_table C 15)) ∧ HasM P w K mg base C 49 "best" ["self", "stretch", "place"] (spMs K (R_best C 15)) ∧ HasM P w K mg base C 50 "first_move" ["self", "stretch", "place"] (spMs K (R_first C 15)) := by
  have hc := ok_Plans_cost (P := P) (w := w) (base := base) Y Tc B
  have hp := ok_Plans_parts Y Tp B h_answer
  have step : ∀ m : Nat, HasM P w K mg base C (3 + 3 * m) "table" ["self", "stretch"] (spMs K (R_table C m)) := fun m => by
    induction m with
    | zero =>
      obtain ⟨f, fd, Fn, Mt⟩ := Tt
      refine ⟨f, fd, ?_, Mt, Fn.binds fun _ _ _ _ _ _ us hl => match us, hl with | [_, _], _ => rfl⟩
      have no : ∀ vs H Q E, ¬ spMs K (R_table C 0) vs H Q E := fun vs H Q E h => by
        obtain ⟨L, M, ss, r, M', _, _, _, _, _, ⟨p, q, n, b, lo, hi, _, _, _, h1, h2, h3, h4, h5, _⟩, _⟩ := h
        have h5' : hi - lo ≤ 0 := h5
        omega
      exact ⟨fun vs H Q E h => (no vs H Q E h).elim, fun A outer s H args us vs Q E _ _ _ _ h => (no vs H Q E h).elim⟩
    | succ m ih =>
      have hb := ok_Plans_best Y Tb B ih
      have hn := ok_Plans_with_news Y Tn B (hp.mono (k := 3 + 3 * m + 1) (by omega)) (hc.mono (k := 3 + 3 * m + 1) (by omega)) hb
      exact (ok_Plans_table Y Tt B hn (hc.mono (k := 3 + 3 * m + 1 + 1) (by omega))).mono (by omega)
  have ht := step 15
  have hb := ok_Plans_best Y Tb B ht
  exact ⟨ht, hb, ok_Plans_first_move Y Tf B (hp.mono (k := 49) (by omega)) (hc.mono (k := 49) (by omega)) hb⟩

section
variable {X : Cx} {K' : PySem.W.Frag} (hK : X.K = K')
include hK
theorem w_index : MtR X "list.index" (rIndex K') := hK ▸ mt_index
end
theorem flat_ints (ns : List Int) : (ns.map V.int).all flatV = true := by simp [List.all_map, Function.comp_def, flatV]
theorem ev_index {K : PySem.W.Frag} {ρ : List Sl} {M : Ms} {ta te : TE} {ns : List Int} {v : Int} (ha : Ev K ta ρ M (.dat (dI ns)) M) (hb : Ev K te ρ M (.dat (.int v)) M) (hv : v ∈ ns) : Ev K (tBM K "list" (rIndex K) ta (tCons te tNil)) ρ M (.dat (.int (ns.idxOf v : Nat))) M := fun F L σ H o Q q => ha F L σ H o _ fun x H1 o1 e1 a1 x1 => by
  obtain ⟨a, xs, rfl, h1, h2⟩ := list_of x1
  have e := dp_ints h2
  subst e
  refine ⟨.inl ⟨rfl, _, SqL.vis h1⟩, hb F L σ H1 o1 _ fun y H2 o2 e2 a2 y2 => ?_⟩
  rw [int_of y2]
  have h1' : Rd (hid (L ++ ad M) H2) a (.lst (ns.map V.int)) := Rd.mono (same_visL a2) h1
  have hl : ns.idxOf v < ns.length := List.idxOf_lt_length_iff.mpr hv
  refine ⟨a, ns.map V.int, .int v, ns.idxOf v, .int v, rfl, rfl, SqL.vis h1', rfl, flat_ints ns, ?_, by simp [eqV], fun m z' hm hz => ?_, q _ H2 o2 e2 (chain2 rfl a1 a2) (.int _)⟩
  · rw [List.getElem?_map, List.getElem?_eq_getElem hl, List.getElem_idxOf hl]; rfl
  · rw [List.getElem?_map] at hz
    have hml : m < ns.length := by omega
    rw [List.getElem?_eq_getElem hml] at hz
    cases hz
    have : ns[m] ≠ v := fun e => by
      have := List.not_of_lt_findIdx (p := (· == v)) (xs := ns) (i := m) hm
      simp [e] at this
    simp [eqV, this]
def pairD (b : Bool) (n : Nat) (lo hi x : Int) : PyData := if lo = hi then .tuple [.int 0, .none] else .tuple [.int (Bst b n lo hi x), optI (fmv b n lo hi x)]
def costsL (n : Nat) : List Int := (List.range n).map fun (k : Nat) => Bst false n 1 n (1 + (k : Int))
def atAllD (n : Nat) : PyData := if n = 1 then .tuple [.int 0, .none] else .tuple [.int (1 + mnL (costsL n)), .int ((costsL n).idxOf (mnL (costsL n)) + 1 : Nat)]
def R_need_short (ds : List PyData) (r : PyData) : Prop := ∃ n m : Int, ds = [.int n, .int m] ∧ 1 ≤ n ∧ n ≤ 60 ∧ n ≤ m ∧ r = .none
theorem ev_need_short {K : PySem.W.Frag} {ta tb : TE} {ρ : List Sl} {M M1 M2 : Ms} {E : XK} {n m : Int} (ha : Ev K ta ρ M (.dat (.int n)) M1) (hb : Ev K tb ρ M1 (.dat (.int m)) M2) (h1 : 1 ≤ n) (h2 : n ≤ 60) (h3 : n ≤ m) :
    Ev K (tCall (spP K R_need_short) [] E (tCons ta (tCons tb tNil))) ρ M (.dat .none) M2 := ev_callD (ed_cons ha (ed_cons hb ed_nil)) ⟨n, m, rfl, h1, h2, h3, rfl⟩
abbrev s_need_short : Stmt := topS 17
theorem sc_need_short : FnScope ["length", "most"] ["length", "most"] (defScope s_need_short) := ⟨rfl, rfl, rfl, by decide +kernel, rfl, by decide +kernel, by decide +kernel⟩
theorem ok_need_short (T : Raw K mg "need_short" "need_short" s_need_short) (B : Bl mg)   (h_need_length : Has P w K mg base 2 "need_length" ["length"] (spP K R_need_length)) : Has P w K mg base 3 "need_short" ["length", "most"] (spP K R_need_short) := by
  obtain ⟨f, fd, Fn, hg⟩ := T
  obtain ⟨_, _, G_need_length, g_need_length, k_need_length, b_need_length⟩ := h_need_length
  refine ⟨f, fd, okP Fn sc_need_short ?len (fun cdv A outer s H E hr => ⟨_, (pss_cons (ps_expr (pe_call G_need_length (hr.mono (by first | decide | omega)) (by rfl) g_need_length k_need_length b_need_length .nil pass0 (pa_cons (pv 0) pa_nil)))
      (pss_one (ps_if (pt_cmpR op_gt (pv 0) (pv 1) (nomark _)) (pss_one ps_never) pss_nil))), ?_⟩), hg, Fn.kp, Fn.binds fun _ _ _ _ _ _ us hl => match us, hl with | [_, _], _ => rfl⟩
  case len =>
    rintro ds r ⟨n, m, rfl, h1, h2, h3, rfl⟩; rfl
  rintro ds r ⟨n, m, rfl, h1, h2, h3, rfl⟩ F L σ H D hrt hnx o
  try dsimp only [cxOf]
  refine q_drop0 (ev_need_length (by wtm_at "ev") (within_int ⟨h1, h2⟩)) (fun σ H o => ?_) o
  refine s_ifF0 (et_is (by wtm_at "et") (by simp; omega)) (fun H o => ?_) o
  exact hnx _ _ o.fr rfl
def R_need_asked (ds : List PyData) (r : PyData) : Prop := ∃ n lo hi x : Int, ds = [.int n, dT2 lo hi, .int x] ∧ 1 ≤ n ∧ n ≤ 16 ∧ 1 ≤ lo ∧ lo ≤ hi ∧ hi ≤ n ∧ 1 ≤ x ∧ x ≤ n ∧ r = .none
abbrev s_need_asked : Stmt := topS 39
theorem sc_need_asked : FnScope ["length", "stretch", "place", "one"] ["length", "stretch", "place"] (defScope s_need_asked) := ⟨rfl, rfl, rfl, by decide +kernel, rfl, by decide +kernel, by decide +kernel⟩
theorem ok_need_asked (T : Raw K mg "need_asked" "need_asked" s_need_asked) (B : Bl mg) {t_MOST : Tok} (g_MOST : mg "MOST" = some (.int 16 t_MOST))  (h_need_short : Has P w K mg base 3 "need_short" ["length", "most"] (spP K R_need_short)) (h_is_within : Has P w K mg base 1 "is_within" ["thing", "low", "high"] (spP K R_is_within)) (h_need_place : Has P w K mg base 2 "need_place" ["length", "place"] (spP K R_need_place)) : Has P w K mg base 4 "need_asked" ["length", "stretch", "place"] (spP K R_need_asked) := by
  obtain ⟨f, fd, Fn, hg⟩ := T
  obtain ⟨_, _, G_need_short, g_need_short, k_need_short, b_need_short⟩ := h_need_short
  obtain ⟨_, _, G_is_within, g_is_within, k_is_within, b_is_within⟩ := h_is_within
  obtain ⟨_, _, G_need_place, g_need_place, k_need_place, b_need_place⟩ := h_need_place
  refine ⟨f, fd, okP Fn sc_need_asked ?len (fun cdv A outer s H E hr => ⟨_, (pss_cons (ps_expr (pe_call G_need_short (hr.mono (by first | decide | omega)) (by rfl) g_need_short k_need_short b_need_short .nil pass0 (pa_cons (pv 0) (pa_cons (pe_glob (by rfl) g_MOST (show RelV (.int 16) _ from ⟨_, rfl⟩)) pa_nil))))
      (pss_cons (ps_if (PW.pt (pw_or (pt_not (pt_val (pe_callB (w_isi (K' := K) rfl) (by rfl) B.isinstance_ (by decide +kernel) (pa_cons (pv 1) (pa_cons (pe_bltn (by rfl) B.tuple_ (by decide +kernel) (show RelV (.ty "tuple") _ from rfl)) pa_nil))))) (pw_or (pt_cmpR op_ne (pe_callB (w_len (K' := K) rfl) (by rfl) B.len_ (by decide +kernel) (pa_cons (pv 1) pa_nil)) pe_int (nomark _)) (pw_or1 (pt_not (pt_val (pe_callB (w_all (K' := K) rfl rfl) (by rfl) B.all_ (by decide +kernel) (pa_cons (pe_lc (own := [("one", 3)]) (g := gName 3) rfl sc_need_asked.nd (wi_tup (K' := K) rfl (pv 1)) (blkOk_by (own := [("one", 3)]) (N := ["length", "stretch", "place", "one"]) (sc := defScope s_need_asked) (by decide +kernel)) (fun _ _ _ _ _ => (pg_name (i := 3) sc_need_asked.nd rfl (by first | exact .inl rfl | exact .inr rfl))) (fun _ _ _ _ _ => pts_nil) (fun _ _ _ _ _ => (pe_call G_is_within (hr.mono (by first | decide | omega)) (by rfl) g_is_within k_is_within b_is_within .nil pass0 (pa_cons (pv 3) (pa_cons pe_int (pa_cons (pv 0) pa_nil)))))) pa_nil)))))))) (pss_one ps_never) pss_nil)
      (pss_cons (ps_if (pt_cmpR op_gt (pe_ix (w_ixT (K' := K) rfl) (pv 1) pe_int (fun _ _ => rfl)) (pe_ix (w_ixT (K' := K) rfl) (pv 1) pe_int (fun _ _ => rfl)) (nomark _)) (pss_one ps_never) pss_nil)
      (pss_one (ps_expr (pe_call G_need_place (hr.mono (by first | decide | omega)) (by rfl) g_need_place k_need_place b_need_place .nil pass0 (pa_cons (pv 0) (pa_cons (pv 2) pa_nil)))))))), ?_⟩), hg, Fn.kp, Fn.binds fun _ _ _ _ _ _ us hl => match us, hl with | [_, _, _], _ => rfl⟩
  case len =>
    rintro ds r ⟨n, lo, hi, x, rfl, h1, h2, h3, h4, h5, h6, h7, rfl⟩; rfl
  rintro ds r ⟨n, lo, hi, x, rfl, h1, h2, h3, h4, h5, h6, h7, rfl⟩ F L σ H D hrt hnx o
  try dsimp only [cxOf]
  replace o : Ok K F L σ H [.dat (.int n), .dat (dT2 lo hi), .dat (.int x), .un] [] := o
  refine q_drop0 (ev_need_short (by wtm_at "ev") ev_int h1 (by omega) h2) (fun σ H o => ?_) o
  refine q_ifF0 (et_orF (et_is (et_not (et_test (ev_isi (ev_varD rfl) (by simp)))) rfl) (et_orF (et_is (et_test (ev_neI (ev_lenT (ds := [.int lo, .int hi]) (EvA.cons (ev_varD rfl) EvA.nil)) ev_int)) rfl) (et_notF (et_test (ev_isD (ev_allB (bs := [true, true]) (EvA.cons (EvN.ev (evn_is (evn_lcP (n := 2) (item := fun i => ([.int lo, .int hi] : List PyData).getD i .none) (fun i => .bool (within (([.int lo, .int hi] : List PyData).getD i .none) 1 n)) (ei_tup (ds := [.int lo, .int hi]) (ev_varD rfl)) (by wtm_at "eg") (by simp) (fun i hi => ev_is_within (ev_varD rfl) ev_int (ev_varD rfl)) (by decide)) ?eq)) EvA.nil)) rfl))))) (fun H o => ?_) o
  case eq =>
    show [PyData.bool (within (.int lo) 1 n), PyData.bool (within (.int hi) 1 n)] = [PyData.bool true, PyData.bool true]
    rw [within_int (by omega), within_int (by omega)]
  refine q_ifF0 (et_is (et_test (ev_gt (ev_ixT (ds := [.int lo, .int hi]) (ev_varD rfl) ev_int rfl) (ev_ixT (ds := [.int lo, .int hi]) (ev_varD rfl) ev_int rfl))) (by simp; omega)) (fun H o => ?_) o
  exact s_drop0 (ev_need_place (ev_varD rfl) (ev_varD rfl) (within_int ⟨h6, h7⟩)) (fun σ H o => hnx _ _ o.fr rfl) o
def R_best_pair (ds : List PyData) (r : PyData) : Prop := ∃ (n : Nat) (lo hi x : Int) (b : Bool), ds = [.int n, dT2 lo hi, .int x, .bool b] ∧ n ≤ 16 ∧ 1 ≤ lo ∧ lo ≤ hi ∧ hi ≤ n ∧ 1 ≤ x ∧ x ≤ n ∧ r = pairD b n lo hi x
abbrev s_best_pair : Stmt := topS 40
theorem sc_best_pair : FnScope ["length", "stretch", "place", "by_steps", "plans"] ["length", "stretch", "place", "by_steps"] (defScope s_best_pair) := ⟨rfl, rfl, rfl, by decide +kernel, rfl, by decide +kernel, by decide +kernel⟩
theorem ok_best_pair (T : Raw K mg "best_pair" "best_pair" s_best_pair) (B : Bl mg)  {C_Plans : Addr} (Y_Plans : PlansC K mg C_Plans) (h_Plans___init__ : HasI P w K mg base C_Plans 1 ["self", "length", "by_steps"] (spI K C_Plans R_init)) (h_Plans_first_move : HasM P w K mg base C_Plans 50 "first_move" ["self", "stretch", "place"] (spMs K (R_first C_Plans 15))) (h_Plans_best : HasM P w K mg base C_Plans 49 "best" ["self", "stretch", "place"] (spMs K (R_best C_Plans 15))) : Has P w K mg base 51 "best_pair" ["length", "stretch", "place", "by_steps"] (spP K R_best_pair) := by
  obtain ⟨f, fd, Fn, hg⟩ := T
  obtain ⟨_, _, G_Plans___init__, k_Plans, b_Plans___init__⟩ := h_Plans___init__
  obtain ⟨_, _, G_Plans_first_move, m_Plans_first_move, b_Plans_first_move⟩ := h_Plans_first_move
  obtain ⟨_, _, G_Plans_best, m_Plans_best, b_Plans_best⟩ := h_Plans_best
  have c_Plans := Y_Plans.cl
  have g_Plans := Y_Plans.g
  refine ⟨f, fd, okP Fn sc_best_pair ?len (fun cdv A outer s H E hr => ⟨_, (pss_cons (ps_set (i := 4) sc_best_pair.nd rfl (by first | exact .inl rfl | exact .inr rfl) (pe_make k_Plans G_Plans___init__ (hr.mono (by first | decide | omega)) (by rfl) g_Plans b_Plans___init__ .nil pass0 (pa_cons (pv 0) (pa_cons (pv 3) pa_nil))))
      (pss_cons (ps_if (pt_cmpR op_eq (pe_ix (w_ixT (K' := K) rfl) (pv 1) pe_int (fun _ _ => rfl)) (pe_ix (w_ixT (K' := K) rfl) (pv 1) pe_int (fun _ _ => rfl)) (nomark _)) (pss_one (ps_ret (pe_tup (pa_cons pe_int (pa_cons pe_non pa_nil))))) pss_nil)
      (pss_one (ps_ret (pe_tup (pa_cons (pe_meth (pv 4) c_Plans m_Plans_best G_Plans_best (hr.mono (by first | decide | omega)) b_Plans_best .nil pass0 (pa_cons (pv 1) (pa_cons (pv 2) pa_nil))) (pa_cons (pe_meth (pv 4) c_Plans m_Plans_first_move G_Plans_first_move (hr.mono (by first | decide | omega)) b_Plans_first_move .nil pass0 (pa_cons (pv 1) (pa_cons (pv 2) pa_nil))) pa_nil))))))), ?_⟩), hg, Fn.kp, Fn.binds fun _ _ _ _ _ _ us hl => match us, hl with | [_, _, _, _], _ => rfl⟩
  case len =>
    rintro ds r ⟨n, lo, hi, x, b, rfl, h2, h3, h4, h5, h6, h7, rfl⟩; rfl
  rintro ds r ⟨n, lo, hi, x, b, rfl, h2, h3, h4, h5, h6, h7, rfl⟩ F L σ H D hrt hnx o
  try dsimp only [cxOf]
  replace o : Ok K F L σ H [.dat (.int n), .dat (dT2 lo hi), .dat (.int x), .dat (.bool b), .un] [] := o
  refine q_asgMake (ds := [.int n, .bool b]) (M1 := []) (EvA.cons (ev_varD rfl) (EvA.cons (ev_varD rfl) EvA.nil)) ⟨n, b, rfl, rfl, rfl⟩ (fun p q σ H o => ?_) o
  replace o : Ok K F L σ H [.dat (.int n), .dat (dT2 lo hi), .dat (.int x), .dat (.bool b), .loc (.ref p)] ((p, plO C_Plans n b q) :: (q, .dP (Gd b n)) :: []) := o
  refine q_ifR0 (b := decide (lo = hi)) (et_test (ev_eqI (ev_ixT (ds := [.int lo, .int hi]) (ev_varD rfl) ev_int rfl) (ev_ixT (ds := [.int lo, .int hi]) (ev_varD rfl) ev_int rfl))) (fun e H o => ?_) (fun e H o => ?_) o
  · refine s_retP0 (ev_isD (ev_tupD (ds := [.int 0, .none]) (ed_cons ev_int (ed_cons ev_non ed_nil)) (by simp)) ?_) hrt o
    unfold pairD; rw [if_pos (of_decide_eq_true e)]
  · refine s_retP0 (ev_isD (ev_tupD (ds := [.int (Bst b n lo hi x), optI (fmv b n lo hi x)]) (ed_cons (ev_plBest (m := 15) (ev_varL rfl) (ev_varD rfl) (ev_varD rfl) h3 h4 h5 (by omega) (by omega) h6 h7) (ed_cons (ev_plFirst (m := 15) (ev_varL rfl) (ev_varD rfl) (ev_varD rfl) h3 h4 h5 (by omega) (by omega) h6 h7) ed_nil)) (by simp)) ?_) hrt o
    unfold pairD; rw [if_neg (of_decide_eq_false e)]
def R_stands_from (ds : List PyData) (r : PyData) : Prop := ∃ (n : Nat) (lo hi x : Int), ds = [.int n, dT2 lo hi, .int x] ∧ n ≤ 16 ∧ 1 ≤ lo ∧ lo ≤ hi ∧ hi ≤ n ∧ 1 ≤ x ∧ x ≤ n ∧ r = pairD false n lo hi x
theorem ev_stands_from {K : PySem.W.Frag} {ta tb tc : TE} {ρ : List Sl} {M M1 M2 M3 : Ms} {E : XK} {n : Nat} {lo hi x : Int} (ha : Ev K ta ρ M (.dat (.int n)) M1) (hb : Ev K tb ρ M1 (.dat (dT2 lo hi)) M2) (hc : Ev K tc ρ M2 (.dat (.int x)) M3) (h2 : n ≤ 16) (h3 : 1 ≤ lo) (h4 : lo ≤ hi) (h5 : hi ≤ n) (h6 : 1 ≤ x) (h7 : x ≤ n) :
    Ev K (tCall (spP K R_stands_from) [] E (tCons ta (tCons tb (tCons tc tNil)))) ρ M (.dat (pairD false n lo hi x)) M3 := ev_callD (ed_cons ha (ed_cons hb (ed_cons hc ed_nil))) ⟨n, lo, hi, x, rfl, h2, h3, h4, h5, h6, h7, rfl⟩
abbrev s_stands_from : Stmt := topS 41
theorem sc_stands_from : FnScope ["length", "stretch", "place"] ["length", "stretch", "place"] (defScope s_stands_from) := ⟨rfl, rfl, rfl, by decide +kernel, rfl, by decide +kernel, by decide +kernel⟩
theorem ok_stands_from (T : Raw K mg "stands_from" "stands_from" s_stands_from) (B : Bl mg)   (h_need_asked : Has P w K mg base 4 "need_asked" ["length", "stretch", "place"] (spP K R_need_asked)) (h_best_pair : Has P w K mg base 51 "best_pair" ["length", "stretch", "place", "by_steps"] (spP K R_best_pair)) : Has P w K mg base 52 "stands_from" ["length", "stretch", "place"] (spP K R_stands_from) := by
  obtain ⟨f, fd, Fn, hg⟩ := T
  obtain ⟨_, _, G_need_asked, g_need_asked, k_need_asked, b_need_asked⟩ := h_need_asked
  obtain ⟨_, _, G_best_pair, g_best_pair, k_best_pair, b_best_pair⟩ := h_best_pair
  refine ⟨f, fd, okP Fn sc_stands_from ?len (fun cdv A outer s H E hr => ⟨_, (pss_cons (ps_expr (pe_call G_need_asked (hr.mono (by first | decide | omega)) (by rfl) g_need_asked k_need_asked b_need_asked .nil pass0 (pa_cons (pv 0) (pa_cons (pv 1) (pa_cons (pv 2) pa_nil)))))
      (pss_one (ps_ret (pe_call G_best_pair (hr.mono (by first | decide | omega)) (by rfl) g_best_pair k_best_pair b_best_pair .nil pass0 (pa_cons (pv 0) (pa_cons (pv 1) (pa_cons (pv 2) (pa_cons pe_bl pa_nil)))))))), ?_⟩), hg, Fn.kp, Fn.binds fun _ _ _ _ _ _ us hl => match us, hl with | [_, _, _], _ => rfl⟩
  case len =>
    rintro ds r ⟨n, lo, hi, x, rfl, h2, h3, h4, h5, h6, h7, rfl⟩; rfl
  rintro ds r ⟨n, lo, hi, x, rfl, h2, h3, h4, h5, h6, h7, rfl⟩ F L σ H D hrt hnx o
  try dsimp only [cxOf]
  replace o : Ok K F L σ H [.dat (.int n), .dat (dT2 lo hi), .dat (.int x)] [] := o
  refine q_drop0 (ev_callD (ds := [.int n, dT2 lo hi, .int x]) (ed_cons (ev_varD rfl) (ed_cons (ev_varD rfl) (ed_cons (ev_varD rfl) ed_nil))) ⟨n, lo, hi, x, rfl, by omega, by omega, h3, h4, h5, h6, h7, rfl⟩) (fun σ H o => ?_) o
  exact s_retP0 (ev_callD (ds := [.int n, dT2 lo hi, .int x, .bool false]) (ed_cons (ev_varD rfl) (ed_cons (ev_varD rfl) (ed_cons (ev_varD rfl) (ed_cons ev_bl ed_nil)))) ⟨n, lo, hi, x, false, rfl, h2, h3, h4, h5, h6, h7, rfl⟩) hrt o
def R_steps_from (ds : List PyData) (r : PyData) : Prop := ∃ (n : Nat) (lo hi x : Int), ds = [.int n, dT2 lo hi, .int x] ∧ n ≤ 16 ∧ 1 ≤ lo ∧ lo ≤ hi ∧ hi ≤ n ∧ 1 ≤ x ∧ x ≤ n ∧ r = pairD true n lo hi x
theorem ev_steps_from {K : PySem.W.Frag} {ta tb tc : TE} {ρ : List Sl} {M M1 M2 M3 : Ms} {E : XK} {n : Nat} {lo hi x : Int} (ha : Ev K ta ρ M (.dat (.int n)) M1) (hb : Ev K tb ρ M1 (.dat (dT2 lo hi)) M2) (hc : Ev K tc ρ M2 (.dat (.int x)) M3) (h2 : n ≤ 16) (h3 : 1 ≤ lo) (h4 : lo ≤ hi) (h5 : hi ≤ n) (h6 : 1 ≤ x) (h7 : x ≤ n) :
    Ev K (tCall (spP K R_steps_from) [] E (tCons ta (tCons tb (tCons tc tNil)))) ρ M (.dat (pairD true n lo hi x)) M3 := ev_callD (ed_cons ha (ed_cons hb (ed_cons hc ed_nil))) ⟨n, lo, hi, x, rfl, h2, h3, h4, h5, h6, h7, rfl⟩
abbrev s_steps_from : Stmt := topS 42
theorem sc_steps_from : FnScope ["length", "stretch", "place"] ["length", "stretch", "place"] (defScope s_steps_from) := ⟨rfl, rfl, rfl, by decide +kernel, rfl, by decide +kernel, by decide +kernel⟩
theorem ok_steps_from (T : Raw K mg "steps_from" "steps_from" s_steps_from) (B : Bl mg)   (h_need_asked : Has P w K mg base 4 "need_asked" ["length", "stretch", "place"] (spP K R_need_asked)) (h_best_pair : Has P w K mg base 51 "best_pair" ["length", "stretch", "place", "by_steps"] (spP K R_best_pair)) : Has P w K mg base 52 "steps_from" ["length", "stretch", "place"] (spP K R_steps_from) := by
  obtain ⟨f, fd, Fn, hg⟩ := T
  obtain ⟨_, _, G_need_asked, g_need_asked, k_need_asked, b_need_asked⟩ := h_need_asked
  obtain ⟨_, _, G_best_pair, g_best_pair, k_best_pair, b_best_pair⟩ := h_best_pair
  refine ⟨f, fd, okP Fn sc_steps_from ?len (fun cdv A outer s H E hr => ⟨_, (pss_cons (ps_expr (pe_call G_need_asked (hr.mono (by first | decide | omega)) (by rfl) g_need_asked k_need_asked b_need_asked .nil pass0 (pa_cons (pv 0) (pa_cons (pv 1) (pa_cons (pv 2) pa_nil)))))
      (pss_one (ps_ret (pe_call G_best_pair (hr.mono (by first | decide | omega)) (by rfl) g_best_pair k_best_pair b_best_pair .nil pass0 (pa_cons (pv 0) (pa_cons (pv 1) (pa_cons (pv 2) (pa_cons pe_bl pa_nil)))))))), ?_⟩), hg, Fn.kp, Fn.binds fun _ _ _ _ _ _ us hl => match us, hl with | [_, _, _], _ => rfl⟩
  case len =>
    rintro ds r ⟨n, lo, hi, x, rfl, h2, h3, h4, h5, h6, h7, rfl⟩; rfl
  rintro ds r ⟨n, lo, hi, x, rfl, h2, h3, h4, h5, h6, h7, rfl⟩ F L σ H D hrt hnx o
  try dsimp only [cxOf]
  replace o : Ok K F L σ H [.dat (.int n), .dat (dT2 lo hi), .dat (.int x)] [] := o
  refine q_drop0 (ev_callD (ds := [.int n, dT2 lo hi, .int x]) (ed_cons (ev_varD rfl) (ed_cons (ev_varD rfl) (ed_cons (ev_varD rfl) ed_nil))) ⟨n, lo, hi, x, rfl, by omega, by omega, h3, h4, h5, h6, h7, rfl⟩) (fun σ H o => ?_) o
  exact s_retP0 (ev_callD (ds := [.int n, dT2 lo hi, .int x, .bool true]) (ed_cons (ev_varD rfl) (ed_cons (ev_varD rfl) (ed_cons (ev_varD rfl) (ed_cons ev_bl ed_nil)))) ⟨n, lo, hi, x, true, rfl, h2, h3, h4, h5, h6, h7, rfl⟩) hrt o
def R_stands_at_all (ds : List PyData) (r : PyData) : Prop := ∃ (n : Nat), ds = [.int n] ∧ 1 ≤ n ∧ n ≤ 16 ∧ r = atAllD n
theorem ev_at_all {K : PySem.W.Frag} {ta : TE} {ρ : List Sl} {M M1 : Ms} {E : XK} {n : Nat} (ha : Ev K ta ρ M (.dat (.int n)) M1) (h1 : 1 ≤ n) (h2 : n ≤ 16) : Ev K (tCall (spP K R_stands_at_all) [] E (tCons ta tNil)) ρ M (.dat (atAllD n)) M1 := ev_callD (ed_cons ha ed_nil) ⟨n, rfl, h1, h2, rfl⟩
abbrev s_stands_at_all : Stmt := topS 43
theorem sc_stands_at_all : FnScope ["length", "costs"] ["length"] (defScope s_stands_at_all) := ⟨rfl, rfl, rfl, by decide +kernel, rfl, by decide +kernel, by decide +kernel⟩
theorem ok_stands_at_all (T : Raw K mg "stands_at_all" "stands_at_all" s_stands_at_all) (B : Bl mg) {t_MOST : Tok} (g_MOST : mg "MOST" = some (.int 16 t_MOST)) {C_Plans : Addr} (Y_Plans : PlansC K mg C_Plans) (h_need_short : Has P w K mg base 3 "need_short" ["length", "most"] (spP K R_need_short)) (h_Plans_table : HasM P w K mg base C_Plans 48 "table" ["self", "stretch"] (spMs K (R_table C_Plans 15))) (h_Plans___init__ : HasI P w K mg base C_Plans 1 ["self", "length", "by_steps"] (spI K C_Plans R_init)) : Has P w K mg base 49 "stands_at_all" ["length"] (spP K R_stands_at_all) := by
  obtain ⟨f, fd, Fn, hg⟩ := T
  obtain ⟨_, _, G_need_short, g_need_short, k_need_short, b_need_short⟩ := h_need_short
  obtain ⟨_, _, G_Plans_table, m_Plans_table, b_Plans_table⟩ := h_Plans_table
  obtain ⟨_, _, G_Plans___init__, k_Plans, b_Plans___init__⟩ := h_Plans___init__
  have c_Plans := Y_Plans.cl
  have g_Plans := Y_Plans.g
  refine ⟨f, fd, okP Fn sc_stands_at_all ?len (fun cdv A outer s H E hr => ⟨_, (pss_cons (ps_expr (pe_call G_need_short (hr.mono (by first | decide | omega)) (by rfl) g_need_short k_need_short b_need_short .nil pass0 (pa_cons (pv 0) (pa_cons (pe_glob (by rfl) g_MOST (show RelV (.int 16) _ from ⟨_, rfl⟩)) pa_nil))))
      (pss_cons (ps_if (pt_cmpR op_eq (pv 0) pe_int (nomark _)) (pss_one (ps_ret (pe_tup (pa_cons pe_int (pa_cons pe_non pa_nil))))) pss_nil)
      (pss_cons (ps_set (i := 1) sc_stands_at_all.nd rfl (by first | exact .inl rfl | exact .inr rfl) (pe_meth (pe_make k_Plans G_Plans___init__ (hr.mono (by first | decide | omega)) (by rfl) g_Plans b_Plans___init__ .nil pass0 (pa_cons (pv 0) (pa_cons pe_bl pa_nil))) c_Plans m_Plans_table G_Plans_table (hr.mono (by first | decide | omega)) b_Plans_table .nil pass0 (pa_cons (pe_tup (pa_cons pe_int (pa_cons (pv 0) pa_nil))) pa_nil)))
      (pss_one (ps_ret (pe_tup (pa_cons (pe_op op_add pe_int (pe_callB (w_min (K' := K) rfl rfl) (by rfl) B.min_ (by decide +kernel) (pa_cons (pv 1) pa_nil))) (pa_cons (pe_op op_add (pe_bm PySem.F.plainAttrs_list PySem.F.slot_list_index PySem.F.type_list_index (w_index (K' := K) rfl) (pv 1) (pa_cons (pe_callB (w_min (K' := K) rfl rfl) (by rfl) B.min_ (by decide +kernel) (pa_cons (pv 1) pa_nil)) pa_nil)) pe_int) pa_nil)))))))), ?_⟩), hg, Fn.kp, Fn.binds fun _ _ _ _ _ _ us hl => match us, hl with | [_], _ => rfl⟩
  case len =>
    rintro ds r ⟨n, rfl, h1, h2, rfl⟩; rfl
  rintro ds r ⟨n, rfl, h1, h2, rfl⟩ F L σ H D hrt hnx o
  try dsimp only [cxOf]
  replace o : Ok K F L σ H [.dat (.int n), .un] [] := o
  refine q_drop0 (ev_need_short (by wtm_at "ev") ev_int (by omega) (by omega) (by omega)) (fun σ H o => ?_) o
  refine q_ifR0 (b := decide ((n : Int) = 1)) (by wtm_at "et") (fun e H o => ?_) (fun e H o => ?_) o
  · have e := of_decide_eq_true e
    refine s_retP0 (ev_isD (ev_tupD (ds := [.int 0, .none]) (ed_cons ev_int (ed_cons ev_non ed_nil)) (by simp)) ?_) hrt o
    unfold atAllD; rw [if_pos (by omega)]
  · have e := of_decide_eq_false e
    refine q_asg0 (s := .dat (tabD false n 1 n)) (ev_makeMeth (ds := [.int n, .bool false]) (fO := plF n false) (qO := .dP (Gd false n)) (qO' := .dP (Gd false n)) (ss := [.dat (dT2 1 n)]) (EvA.cons (ev_varD rfl) (EvA.cons ev_bl EvA.nil)) ⟨n, false, rfl, rfl, rfl⟩ (fun q => pl_no _ _ _ (by decide +kernel)) (fun p q => EvA.cons (ev_tupD (ds := [.int 1, .int n]) (ed_cons ev_int (ed_cons (ev_varD rfl) ed_nil)) (by simp)) EvA.nil) (fun p q => ⟨p, q, n, false, 1, n, rfl, rfl, rfl, by omega, by omega, by omega, by omega, by omega, rfl⟩)) (fun σ H o => ?_) o
    replace o : Ok K F L σ H [.dat (.int n), .dat (dI (costsL n))] [] := o
    have hne : costsL n ≠ [] := fun z => by
      have := congrArg List.length z
      simp only [costsL, List.length_map, List.length_range, List.length_nil] at this
      omega
    have hmin : Ev K (tCB (rMin K) (tCons (tVar 1) tNil)) [.dat (.int n), .dat (dI (costsL n))] [] (.dat (.int (mnL (costsL n)))) [] := ev_minL (ns := costsL n) (EvA.cons (ev_varD rfl) EvA.nil) (mnL_mem hne) (fun y hy => mnL_le hy)
    refine s_retP0 (ev_isD (ev_tupD (ds := [.int (1 + mnL (costsL n)), .int ((costsL n).idxOf (mnL (costsL n)) + 1)]) (ed_cons (ev_add ev_int hmin) (ed_cons (ev_add (ev_index (ev_varD rfl) hmin (mnL_mem hne)) ev_int) ed_nil)) (by simp)) ?_) hrt o
    unfold atAllD; rw [if_neg (by omega)]; rfl
/-! refusals of the long path, of stretches -/
def X_need_shortA (ds : List PyData) (x : Er) : Prop := ∃ d e, ds = [d, e] ∧ within d 1 60 = false ∧ x = .length
theorem okX_need_short_A {f : Addr} {fd : FuncData} (Fn : Fun K "need_short" "need_short" s_need_short f fd) (B : Bl mg) {ce : CE} (YE : ErrsC K mg ce) (hX_need_length : HasX P w K mg base 20 "need_length" ["length"] (spE K (XD ce X_need_lengthA))) : FnOk P w K mg base (L2N.CX P w) 22 f fd ["length", "most"] (spE K (XD ce X_need_shortA)) := by
  obtain ⟨_, _, GX_need_length, gX_need_length, kX_need_length, bX_need_length⟩ := hX_need_length
  refine okE Fn sc_need_short ?len (fun cdv A outer s H E hr => ⟨_, (pss_cons (ps_expr (pe_call GX_need_length (hr.mono (by first | decide | omega)) (by rfl) gX_need_length kX_need_length bX_need_length .nil passE (pa_cons (pv 0) pa_nil)))
      pss_never), ?_⟩)
  case len =>
    rintro M ss C' ⟨_, _, rfl, rfl, ⟨d, e, rfl, hw, rfl⟩, rfl⟩ <;> rfl
  rintro M ss C' ⟨_, _, rfl, rfl, ⟨d, e, rfl, hw, rfl⟩, rfl⟩ F L σ H D hE hL o
  try dsimp only [cxOf]
  exact xq_drop (fun Q => x_call (EvA.cons (ev_varD (d := d) rfl) EvA.nil) [] (List.nil_sublist _) ⟨[d], .length, rfl, rfl, ⟨_, rfl, hw, rfl⟩, rfl⟩ (fun H1 o1 => hE _ o1.fr (o1.mobs fun x hx => hx)) o)

theorem okX_need_short (B : Bl mg) {ce : CE} (YE : ErrsC K mg ce) (T : Raw K mg "need_short" "need_short" s_need_short) (hX_need_length : HasX P w K mg base 20 "need_length" ["length"] (spE K (XD ce X_need_lengthA))) : HasX P w K mg base 22 "need_short" ["length", "most"] (spE K (XD ce X_need_shortA)) := by
  obtain ⟨f, fd, Fn, hg⟩ := T
  exact ⟨f, fd, ((okX_need_short_A Fn B YE hX_need_length).mono (by decide)), hg, Fn.kp, Fn.binds fun _ _ _ _ _ _ us hl => match us, hl with | [_, _], _ => rfl⟩
def Y_need_short (M : Ms) (ss : List Sl) (m : Int) : Prop := ∃ n : Int, M = [] ∧ ss = [.dat (.int n), .dat (.int m)] ∧ 1 ≤ n ∧ n ≤ 60 ∧ m < n
theorem okXX_need_short (T : Raw K mg "need_short" "need_short" s_need_short) (B : Bl mg) {C_TooLong : Addr} (YT : XfE K mg "TooLong" C_TooLong "most") (YI : XfI P w K mg base C_TooLong "most" 1) (h_need_length : Has P w K mg base 2 "need_length" ["length"] (spP K R_need_length)) : HasX P w K mg base 22 "need_short" ["length", "most"] (spX K C_TooLong "most" Y_need_short) := by
  obtain ⟨f, fd, Fn, hg⟩ := T
  obtain ⟨_, _, G_need_length, g_need_length, k_need_length, b_need_length⟩ := h_need_length
  refine ⟨f, fd, okX Fn sc_need_short ?len (fun cdv A outer s H E hr => ⟨_, (pss_cons (ps_expr (pe_call G_need_length (hr.mono (by first | decide | omega)) (by rfl) g_need_length k_need_length b_need_length .nil pass0 (pa_cons (pv 0) pa_nil)))
      (pss_one (ps_if (pt_cmpR op_gt (pv 0) (pv 1) (nomark _)) (pss_one (ps_raiseXf YT YI (hr.mono (by first | decide | omega)) rfl (pv 1))) pss_nil))), ?_⟩), hg, Fn.kp, Fn.binds fun _ _ _ _ _ _ us hl => match us, hl with | [_, _], _ => rfl⟩
  case len =>
    rintro M ss m ⟨n, rfl, rfl, h1, h2, h3⟩ <;> rfl
  rintro M ss m ⟨n, rfl, rfl, h1, h2, h3⟩ F L σ H D hE hL o
  try dsimp only [cxOf]
  replace o : Ok K F L σ H [.dat (.int n), .dat (.int m)] [] := o
  refine q_drop0 (ev_need_length (ev_varD (d := .int n) rfl) (within_int ⟨h1, h2⟩)) (fun σ H o => ?_) o
  exact s_ifT0 (et_is (et_test (ev_gt (ev_varD rfl) (ev_varD rfl))) (decide_eq_true h3)) (fun H o => x_raiseXf (ev_varD rfl) (fun d H' nd hd hx sF hM => hE d H' nd hd hx sF hM) o hL) o
def X_need_askedA (ds : List PyData) (x : Er) : Prop := ∃ d e1 e2, ds = [d, e1, e2] ∧ within d 1 60 = false ∧ x = .length
theorem okX_need_asked_A {f : Addr} {fd : FuncData} (Fn : Fun K "need_asked" "need_asked" s_need_asked f fd) (B : Bl mg) {ce : CE} (YE : ErrsC K mg ce) {t_MOST : Tok} (g_MOST : mg "MOST" = some (.int 16 t_MOST)) (hX_need_short : HasX P w K mg base 22 "need_short" ["length", "most"] (spE K (XD ce X_need_shortA))) : FnOk P w K mg base (L2N.CX P w) 24 f fd ["length", "stretch", "place"] (spE K (XD ce X_need_askedA)) := by
  obtain ⟨_, _, GX_need_short, gX_need_short, kX_need_short, bX_need_short⟩ := hX_need_short
  refine okE Fn sc_need_asked ?len (fun cdv A outer s H E hr => ⟨_, (pss_cons (ps_expr (pe_call GX_need_short (hr.mono (by first | decide | omega)) (by rfl) gX_need_short kX_need_short bX_need_short .nil passE (pa_cons (pv 0) (pa_cons (pe_glob (by rfl) g_MOST (show RelV (.int 16) _ from ⟨_, rfl⟩)) pa_nil))))
      pss_never), ?_⟩)
  case len =>
    rintro M ss C' ⟨_, _, rfl, rfl, ⟨d, e1, e2, rfl, hw, rfl⟩, rfl⟩ <;> rfl
  rintro M ss C' ⟨_, _, rfl, rfl, ⟨d, e1, e2, rfl, hw, rfl⟩, rfl⟩ F L σ H D hE hL o
  try dsimp only [cxOf]
  exact xq_drop (fun Q => x_call (EvA.cons (ev_varD (d := d) rfl) (EvA.cons (ev_int (i := 16)) EvA.nil)) [] (List.nil_sublist _) ⟨[d, .int 16], .length, rfl, rfl, ⟨_, _, rfl, hw, rfl⟩, rfl⟩ (fun H1 o1 => hE _ o1.fr (o1.mobs fun x hx => hx)) o)
def badStr (n : Int) : PyData → Bool
  | .tuple ds => decide (ds.length ≠ 2) || !(ds.all fun d => within d 1 n)
  | .dict _ => false
  | _ => true
def X_need_askedB (ds : List PyData) (x : Er) : Prop := ∃ (n : Int) (d e2 : PyData), ds = [.int n, d, e2] ∧ ((1 ≤ n ∧ n ≤ 16) ∧ badStr n d = true) ∧ x = .stretch
theorem okX_need_asked_B {f : Addr} {fd : FuncData} (Fn : Fun K "need_asked" "need_asked" s_need_asked f fd) (B : Bl mg) {ce : CE} (YE : ErrsC K mg ce) {t_MOST : Tok} (g_MOST : mg "MOST" = some (.int 16 t_MOST)) (h_need_short : Has P w K mg base 3 "need_short" ["length", "most"] (spP K R_need_short)) (h_is_within : Has P w K mg base 1 "is_within" ["thing", "low", "high"] (spP K R_is_within)) : FnOk P w K mg base (L2N.CX P w) 24 f fd ["length", "stretch", "place"] (spE K (XD ce X_need_askedB)) := by
  obtain ⟨_, _, G_need_short, g_need_short, k_need_short, b_need_short⟩ := h_need_short
  obtain ⟨_, _, G_is_within, g_is_within, k_is_within, b_is_within⟩ := h_is_within
  refine okE Fn sc_need_asked ?len (fun cdv A outer s H E hr => ⟨_, (pss_cons (ps_expr (pe_call G_need_short (hr.mono (by first | decide | omega)) (by rfl) g_need_short k_need_short b_need_short .nil pass0 (pa_cons (pv 0) (pa_cons (pe_glob (by rfl) g_MOST (show RelV (.int 16) _ from ⟨_, rfl⟩)) pa_nil))))
      (pss_cons (ps_if (PW.pt (pw_or (pt_not (pt_val (pe_callB (w_isi (K' := K) rfl) (by rfl) B.isinstance_ (by decide +kernel) (pa_cons (pv 1) (pa_cons (pe_bltn (by rfl) B.tuple_ (by decide +kernel) (show RelV (.ty "tuple") _ from rfl)) pa_nil))))) (pw_or (pt_cmpR op_ne (pe_callB (w_len (K' := K) rfl) (by rfl) B.len_ (by decide +kernel) (pa_cons (pv 1) pa_nil)) pe_int (nomark _)) (pw_or1 (pt_not (pt_val (pe_callB (w_all (K' := K) rfl rfl) (by rfl) B.all_ (by decide +kernel) (pa_cons (pe_lc (own := [("one", 3)]) (g := gName 3) rfl sc_need_asked.nd (wi_tup (K' := K) rfl (pv 1)) (blkOk_by (own := [("one", 3)]) (N := ["length", "stretch", "place", "one"]) (sc := defScope s_need_asked) (by decide +kernel)) (fun _ _ _ _ _ => (pg_name (i := 3) sc_need_asked.nd rfl (by first | exact .inl rfl | exact .inr rfl))) (fun _ _ _ _ _ => pts_nil) (fun _ _ _ _ _ => (pe_call G_is_within (hr.mono (by first | decide | omega)) (by rfl) g_is_within k_is_within b_is_within .nil pass0 (pa_cons (pv 3) (pa_cons pe_int (pa_cons (pv 0) pa_nil)))))) pa_nil)))))))) (pss_one (ps_raiseX (x := "NoStretch") (YE .stretch) rfl)) pss_nil)
      pss_never)), ?_⟩)
  case len =>
    rintro M ss C' ⟨_, _, rfl, rfl, ⟨n, d, e2, rfl, ⟨hn, hw⟩, rfl⟩, rfl⟩ <;> rfl
  rintro M ss C' ⟨_, _, rfl, rfl, ⟨n, d, e2, rfl, ⟨hn, hw⟩, rfl⟩, rfl⟩ F L σ H D hE hL o
  try dsimp only [cxOf]
  replace o : Ok K F L σ H [.dat (.int n), .dat d, .dat e2, .un] [] := o
  refine q_drop0 (ev_need_short (n := n) (m := 16) (ev_varD rfl) ev_int hn.1 (by omega) hn.2) (fun σ H o => ?_) o
  refine xq_ifT ?et (fun H D o => hE _ o.fr (o.mobs fun x hx => hx)) o
  case et =>
    cases d with
    | tuple ds =>
      by_cases e : ds.length = 2
      · have ha : (ds.all fun d => within d 1 n) = false := by simpa [badStr, e] using hw
        refine et_orFM (et_is (et_not (et_test (ev_isi (ev_varD rfl) (by simp)))) rfl) (et_orFM (et_is (et_test (ev_neI (ev_lenT (EvA.cons (ev_varD rfl) EvA.nil)) ev_int)) (by rw [decide_eq_true (by omega)]; rfl)) (et_is (et_not (et_test (ev_allB (bs := ds.map fun d => within d 1 n) (EvA.cons (EvN.ev (evn_is (evn_lcP (n := ds.length) (item := fun i => ds.getD i .none) (fun i => .bool (within (ds.getD i .none) 1 n)) (ei_tup (ev_varD rfl)) (by wtm_at "eg") (by simp) (fun i hi => ev_is_within (ev_varD rfl) ev_int (ev_varD rfl)) (by omega)) ?eq)) EvA.nil)))) (by rw [all_map_id, ha]; rfl)))
        rw [range_map_getD ds .none fun d => PyData.bool (within d 1 n), List.map_map]; rfl
      · exact et_orFM (et_is (et_not (et_test (ev_isi (ev_varD rfl) (by simp)))) rfl) (et_orT (et_is (et_test (ev_neI (ev_lenT (EvA.cons (ev_varD rfl) EvA.nil)) ev_int)) (by rw [decide_eq_false (by omega)]; rfl)))
    | dict x => cases hw
    | int x => exact et_orT (et_is (et_not (et_test (ev_isi (ev_varD rfl) (by simp)))) rfl)
    | bool x => exact et_orT (et_is (et_not (et_test (ev_isi (ev_varD rfl) (by simp)))) rfl)
    | none => exact et_orT (et_is (et_not (et_test (ev_isi (ev_varD rfl) (by simp)))) rfl)
    | str x => exact et_orT (et_is (et_not (et_test (ev_isi (ev_varD rfl) (by simp)))) rfl)
    | list x => exact et_orT (et_is (et_not (et_test (ev_isi (ev_varD rfl) (by simp)))) rfl)
def X_need_askedC (ds : List PyData) (x : Er) : Prop := ∃ (n lo hi : Int) (e2 : PyData), ds = [.int n, .tuple [.int lo, .int hi], e2] ∧ ((1 ≤ n ∧ n ≤ 16) ∧ (1 ≤ lo ∧ lo ≤ n) ∧ (1 ≤ hi ∧ hi ≤ n) ∧ hi < lo) ∧ x = .stretch
theorem okX_need_asked_C {f : Addr} {fd : FuncData} (Fn : Fun K "need_asked" "need_asked" s_need_asked f fd) (B : Bl mg) {ce : CE} (YE : ErrsC K mg ce) {t_MOST : Tok} (g_MOST : mg "MOST" = some (.int 16 t_MOST)) (h_need_short : Has P w K mg base 3 "need_short" ["length", "most"] (spP K R_need_short)) (h_is_within : Has P w K mg base 1 "is_within" ["thing", "low", "high"] (spP K R_is_within)) : FnOk P w K mg base (L2N.CX P w) 24 f fd ["length", "stretch", "place"] (spE K (XD ce X_need_askedC)) := by
  obtain ⟨_, _, G_need_short, g_need_short, k_need_short, b_need_short⟩ := h_need_short
  obtain ⟨_, _, G_is_within, g_is_within, k_is_within, b_is_within⟩ := h_is_within
  refine okE Fn sc_need_asked ?len (fun cdv A outer s H E hr => ⟨_, (pss_cons (ps_expr (pe_call G_need_short (hr.mono (by first | decide | omega)) (by rfl) g_need_short k_need_short b_need_short .nil pass0 (pa_cons (pv 0) (pa_cons (pe_glob (by rfl) g_MOST (show RelV (.int 16) _ from ⟨_, rfl⟩)) pa_nil))))
      (pss_cons (ps_if (PW.pt (pw_or (pt_not (pt_val (pe_callB (w_isi (K' := K) rfl) (by rfl) B.isinstance_ (by decide +kernel) (pa_cons (pv 1) (pa_cons (pe_bltn (by rfl) B.tuple_ (by decide +kernel) (show RelV (.ty "tuple") _ from rfl)) pa_nil))))) (pw_or (pt_cmpR op_ne (pe_callB (w_len (K' := K) rfl) (by rfl) B.len_ (by decide +kernel) (pa_cons (pv 1) pa_nil)) pe_int (nomark _)) (pw_or1 (pt_not (pt_val (pe_callB (w_all (K' := K) rfl rfl) (by rfl) B.all_ (by decide +kernel) (pa_cons (pe_lc (own := [("one", 3)]) (g := gName 3) rfl sc_need_asked.nd (wi_tup (K' := K) rfl (pv 1)) (blkOk_by (own := [("one", 3)]) (N := ["length", "stretch", "place", "one"]) (sc := defScope s_need_asked) (by decide +kernel)) (fun _ _ _ _ _ => (pg_name (i := 3) sc_need_asked.nd rfl (by first | exact .inl rfl | exact .inr rfl))) (fun _ _ _ _ _ => pts_nil) (fun _ _ _ _ _ => (pe_call G_is_within (hr.mono (by first | decide | omega)) (by rfl) g_is_within k_is_within b_is_within .nil pass0 (pa_cons (pv 3) (pa_cons pe_int (pa_cons (pv 0) pa_nil)))))) pa_nil)))))))) (pss_one (ps_raiseX (x := "NoStretch") (YE .stretch) rfl)) pss_nil)
      (pss_cons (ps_if (pt_cmpR op_gt (pe_ix (w_ixT (K' := K) rfl) (pv 1) pe_int (fun _ _ => rfl)) (pe_ix (w_ixT (K' := K) rfl) (pv 1) pe_int (fun _ _ => rfl)) (nomark _)) (pss_one (ps_raiseX (x := "NoStretch") (YE .stretch) rfl)) pss_nil)
      pss_never))), ?_⟩)
  case len =>
    rintro M ss C' ⟨_, _, rfl, rfl, ⟨n, lo, hi, e2, rfl, ⟨hn, h3, h4, h5⟩, rfl⟩, rfl⟩ <;> rfl
  rintro M ss C' ⟨_, _, rfl, rfl, ⟨n, lo, hi, e2, rfl, ⟨hn, h3, h4, h5⟩, rfl⟩, rfl⟩ F L σ H D hE hL o
  try dsimp only [cxOf]
  replace o : Ok K F L σ H [.dat (.int n), .dat (.tuple [.int lo, .int hi]), .dat e2, .un] [] := o
  refine q_drop0 (ev_need_short (n := n) (m := 16) (ev_varD rfl) ev_int hn.1 (by omega) hn.2) (fun σ H o => ?_) o
  refine q_ifF0 (et_orF (et_is (et_not (et_test (ev_isi (ev_varD rfl) (by simp)))) rfl) (et_orF (et_is (et_test (ev_neI (ev_lenT (ds := [.int lo, .int hi]) (EvA.cons (ev_varD rfl) EvA.nil)) ev_int)) rfl) (et_notF (et_test (ev_isD (ev_allB (bs := [true, true]) (EvA.cons (EvN.ev (evn_is (evn_lcP (n := 2) (item := fun i => [PyData.int lo, PyData.int hi].getD i .none) (fun i => .bool (within ([PyData.int lo, PyData.int hi].getD i .none) 1 n)) (ei_tup (ds := [.int lo, .int hi]) (ev_varD rfl)) (by wtm_at "eg") (by simp) (fun i hi => ev_is_within (ev_varD rfl) ev_int (ev_varD rfl)) (by omega)) ?eq)) EvA.nil)) rfl))))) (fun H o => ?_) o
  case eq =>
    show [PyData.bool (within (.int lo) 1 n), PyData.bool (within (.int hi) 1 n)] = [PyData.bool true, PyData.bool true]
    rw [within_int (by omega), within_int (by omega)]
  exact xq_ifT (et_is (et_test (ev_gt (ev_ixT (ds := [.int lo, .int hi]) (ev_varD rfl) ev_int rfl) (ev_ixT (ds := [.int lo, .int hi]) (ev_varD rfl) ev_int rfl))) (decide_eq_true h5)) (fun H D o => hE _ o.fr (o.mobs fun x hx => hx)) o
def X_need_askedD (ds : List PyData) (x : Er) : Prop := ∃ (n lo hi : Int) (d : PyData), ds = [.int n, .tuple [.int lo, .int hi], d] ∧ ((1 ≤ n ∧ n ≤ 16) ∧ 1 ≤ lo ∧ lo ≤ hi ∧ hi ≤ n ∧ within d 1 n = false) ∧ x = .place
theorem okX_need_asked_D {f : Addr} {fd : FuncData} (Fn : Fun K "need_asked" "need_asked" s_need_asked f fd) (B : Bl mg) {ce : CE} (YE : ErrsC K mg ce) {t_MOST : Tok} (g_MOST : mg "MOST" = some (.int 16 t_MOST)) (h_need_short : Has P w K mg base 3 "need_short" ["length", "most"] (spP K R_need_short)) (h_is_within : Has P w K mg base 1 "is_within" ["thing", "low", "high"] (spP K R_is_within)) (hX_need_place : HasX P w K mg base 20 "need_place" ["length", "place"] (spE K (XD ce X_need_placeA))) : FnOk P w K mg base (L2N.CX P w) 24 f fd ["length", "stretch", "place"] (spE K (XD ce X_need_askedD)) := by
  obtain ⟨_, _, G_need_short, g_need_short, k_need_short, b_need_short⟩ := h_need_short
  obtain ⟨_, _, G_is_within, g_is_within, k_is_within, b_is_within⟩ := h_is_within
  obtain ⟨_, _, GX_need_place, gX_need_place, kX_need_place, bX_need_place⟩ := hX_need_place
  refine okE Fn sc_need_asked ?len (fun cdv A outer s H E hr => ⟨_, (pss_cons (ps_expr (pe_call G_need_short (hr.mono (by first | decide | omega)) (by rfl) g_need_short k_need_short b_need_short .nil pass0 (pa_cons (pv 0) (pa_cons (pe_glob (by rfl) g_MOST (show RelV (.int 16) _ from ⟨_, rfl⟩)) pa_nil))))
      (pss_cons (ps_if (PW.pt (pw_or (pt_not (pt_val (pe_callB (w_isi (K' := K) rfl) (by rfl) B.isinstance_ (by decide +kernel) (pa_cons (pv 1) (pa_cons (pe_bltn (by rfl) B.tuple_ (by decide +kernel) (show RelV (.ty "tuple") _ from rfl)) pa_nil))))) (pw_or (pt_cmpR op_ne (pe_callB (w_len (K' := K) rfl) (by rfl) B.len_ (by decide +kernel) (pa_cons (pv 1) pa_nil)) pe_int (nomark _)) (pw_or1 (pt_not (pt_val (pe_callB (w_all (K' := K) rfl rfl) (by rfl) B.all_ (by decide +kernel) (pa_cons (pe_lc (own := [("one", 3)]) (g := gName 3) rfl sc_need_asked.nd (wi_tup (K' := K) rfl (pv 1)) (blkOk_by (own := [("one", 3)]) (N := ["length", "stretch", "place", "one"]) (sc := defScope s_need_asked) (by decide +kernel)) (fun _ _ _ _ _ => (pg_name (i := 3) sc_need_asked.nd rfl (by first | exact .inl rfl | exact .inr rfl))) (fun _ _ _ _ _ => pts_nil) (fun _ _ _ _ _ => (pe_call G_is_within (hr.mono (by first | decide | omega)) (by rfl) g_is_within k_is_within b_is_within .nil pass0 (pa_cons (pv 3) (pa_cons pe_int (pa_cons (pv 0) pa_nil)))))) pa_nil)))))))) (pss_one ps_never) pss_nil)
      (pss_cons (ps_if (pt_cmpR op_gt (pe_ix (w_ixT (K' := K) rfl) (pv 1) pe_int (fun _ _ => rfl)) (pe_ix (w_ixT (K' := K) rfl) (pv 1) pe_int (fun _ _ => rfl)) (nomark _)) (pss_one ps_never) pss_nil)
      (pss_one (ps_expr (pe_call GX_need_place (hr.mono (by first | decide | omega)) (by rfl) gX_need_place kX_need_place bX_need_place .nil passE (pa_cons (pv 0) (pa_cons (pv 2) pa_nil)))))))), ?_⟩)
  case len =>
    rintro M ss C' ⟨_, _, rfl, rfl, ⟨n, lo, hi, d, rfl, ⟨hn, h3, h4, h5, hw⟩, rfl⟩, rfl⟩ <;> rfl
  rintro M ss C' ⟨_, _, rfl, rfl, ⟨n, lo, hi, d, rfl, ⟨hn, h3, h4, h5, hw⟩, rfl⟩, rfl⟩ F L σ H D hE hL o
  try dsimp only [cxOf]
  replace o : Ok K F L σ H [.dat (.int n), .dat (.tuple [.int lo, .int hi]), .dat d, .un] [] := o
  refine q_drop0 (ev_need_short (n := n) (m := 16) (ev_varD rfl) ev_int hn.1 (by omega) hn.2) (fun σ H o => ?_) o
  refine q_ifF0 (et_orF (et_is (et_not (et_test (ev_isi (ev_varD rfl) (by simp)))) rfl) (et_orF (et_is (et_test (ev_neI (ev_lenT (ds := [.int lo, .int hi]) (EvA.cons (ev_varD rfl) EvA.nil)) ev_int)) rfl) (et_notF (et_test (ev_isD (ev_allB (bs := [true, true]) (EvA.cons (EvN.ev (evn_is (evn_lcP (n := 2) (item := fun i => [PyData.int lo, PyData.int hi].getD i .none) (fun i => .bool (within ([PyData.int lo, PyData.int hi].getD i .none) 1 n)) (ei_tup (ds := [.int lo, .int hi]) (ev_varD rfl)) (by wtm_at "eg") (by simp) (fun i hi => ev_is_within (ev_varD rfl) ev_int (ev_varD rfl)) (by omega)) ?eq)) EvA.nil)) rfl))))) (fun H o => ?_) o
  case eq =>
    show [PyData.bool (within (.int lo) 1 n), PyData.bool (within (.int hi) 1 n)] = [PyData.bool true, PyData.bool true]
    rw [within_int (by omega), within_int (by omega)]
  refine q_ifF0 (et_is (et_test (ev_gt (ev_ixT (ds := [.int lo, .int hi]) (ev_varD rfl) ev_int rfl) (ev_ixT (ds := [.int lo, .int hi]) (ev_varD rfl) ev_int rfl))) (decide_eq_false (by omega))) (fun H o => ?_) o
  exact x_drop (fun Q => x_call (EvA.cons (ev_varD (d := .int n) rfl) (EvA.cons (ev_varD (d := d) rfl) EvA.nil)) [] (List.nil_sublist _) ⟨[.int n, d], .place, rfl, rfl, ⟨_, _, rfl, hw, rfl⟩, rfl⟩ (fun H1 o1 => hE _ o1.fr (o1.mobs fun x hx => hx)) o)

theorem okX_need_asked (B : Bl mg) {ce : CE} (YE : ErrsC K mg ce) (T : Raw K mg "need_asked" "need_asked" s_need_asked) {t_MOST : Tok} (g_MOST : mg "MOST" = some (.int 16 t_MOST)) (hX_need_short : HasX P w K mg base 22 "need_short" ["length", "most"] (spE K (XD ce X_need_shortA))) (h_need_short : Has P w K mg base 3 "need_short" ["length", "most"] (spP K R_need_short)) (h_is_within : Has P w K mg base 1 "is_within" ["thing", "low", "high"] (spP K R_is_within)) (hX_need_place : HasX P w K mg base 20 "need_place" ["length", "place"] (spE K (XD ce X_need_placeA))) : HasX P w K mg base 24 "need_asked" ["length", "stretch", "place"] (spE K (fun M ss C => XD ce X_need_askedA M ss C ∨ XD ce X_need_askedB M ss C ∨ XD ce X_need_askedC M ss C ∨ XD ce X_need_askedD M ss C)) := by
  obtain ⟨f, fd, Fn, hg⟩ := T
  exact ⟨f, fd, (fnOk_xor ((okX_need_asked_A Fn B YE g_MOST hX_need_short).mono (by decide)) (fnOk_xor ((okX_need_asked_B Fn B YE g_MOST h_need_short h_is_within).mono (by decide)) (fnOk_xor ((okX_need_asked_C Fn B YE g_MOST h_need_short h_is_within).mono (by decide)) ((okX_need_asked_D Fn B YE g_MOST h_need_short h_is_within hX_need_place).mono (by decide))))), hg, Fn.kp, Fn.binds fun _ _ _ _ _ _ us hl => match us, hl with | [_, _, _], _ => rfl⟩
def Y_need_asked (M : Ms) (ss : List Sl) (m : Int) : Prop := ∃ (n : Int) (e1 e2 : PyData), M = [] ∧ ss = [.dat (.int n), .dat e1, .dat e2] ∧ m = 16 ∧ 16 < n ∧ n ≤ 60
theorem okXX_need_asked (T : Raw K mg "need_asked" "need_asked" s_need_asked) (B : Bl mg) {C_TooLong : Addr} (YT : XfE K mg "TooLong" C_TooLong "most") (YI : XfI P w K mg base C_TooLong "most" 1) {t_MOST : Tok} (g_MOST : mg "MOST" = some (.int 16 t_MOST)) (hXX_need_short : HasX P w K mg base 22 "need_short" ["length", "most"] (spX K C_TooLong "most" Y_need_short)) : HasX P w K mg base 24 "need_asked" ["length", "stretch", "place"] (spX K C_TooLong "most" Y_need_asked) := by
  obtain ⟨f, fd, Fn, hg⟩ := T
  obtain ⟨_, _, GXX_need_short, gXX_need_short, kXX_need_short, bXX_need_short⟩ := hXX_need_short
  refine ⟨f, fd, okX Fn sc_need_asked ?len (fun cdv A outer s H E hr => ⟨_, (pss_cons (ps_expr (pe_call GXX_need_short (hr.mono (by first | decide | omega)) (by rfl) gXX_need_short kXX_need_short bXX_need_short .nil passE (pa_cons (pv 0) (pa_cons (pe_glob (by rfl) g_MOST (show RelV (.int 16) _ from ⟨_, rfl⟩)) pa_nil))))
      pss_never), ?_⟩), hg, Fn.kp, Fn.binds fun _ _ _ _ _ _ us hl => match us, hl with | [_, _, _], _ => rfl⟩
  case len =>
    rintro M ss m ⟨n, e1, e2, rfl, rfl, rfl, h1, h2⟩ <;> rfl
  rintro M ss m ⟨n, e1, e2, rfl, rfl, rfl, h1, h2⟩ F L σ H D hE hL o
  try dsimp only [cxOf]
  exact xq_drop (fun Q => x_callX (EvA.cons (ev_varD (d := .int n) rfl) (EvA.cons (ev_int (i := 16)) EvA.nil)) [] (List.nil_sublist _) ⟨n, rfl, rfl, by omega, h2, h1⟩ (fun d H1 nl nd hd hx o1 => hE d _ nd hd hx o1.fr (o1.mobs fun x hx => hx)) o)
theorem xna_len {ce : CE} {M : Ms} {ss : List Sl} {C : Addr} (h : XD ce X_need_askedA M ss C ∨ XD ce X_need_askedB M ss C ∨ XD ce X_need_askedC M ss C ∨ XD ce X_need_askedD M ss C) : ∃ a b c, ss = [.dat a, .dat b, .dat c] ∧ M = [] := by
  rcases h with ⟨_, _, rfl, rfl, ⟨_, _, _, rfl, _⟩, rfl⟩ | ⟨_, _, rfl, rfl, ⟨_, _, _, rfl, _⟩, rfl⟩ | ⟨_, _, rfl, rfl, ⟨_, _, _, _, rfl, _⟩, rfl⟩ | ⟨_, _, rfl, rfl, ⟨_, _, _, _, rfl, _⟩, rfl⟩ <;> exact ⟨_, _, _, rfl, rfl⟩

theorem okX_stands_from_A {f : Addr} {fd : FuncData} (Fn : Fun K "stands_from" "stands_from" s_stands_from f fd) (B : Bl mg) {ce : CE} (YE : ErrsC K mg ce) (hX_need_asked : HasX P w K mg base 24 "need_asked" ["length", "stretch", "place"] (spE K (fun M ss C => XD ce X_need_askedA M ss C ∨ XD ce X_need_askedB M ss C ∨ XD ce X_need_askedC M ss C ∨ XD ce X_need_askedD M ss C))) : FnOk P w K mg base (L2N.CX P w) 26 f fd ["length", "stretch", "place"] (spE K (fun M ss C => XD ce X_need_askedA M ss C ∨ XD ce X_need_askedB M ss C ∨ XD ce X_need_askedC M ss C ∨ XD ce X_need_askedD M ss C)) := by
  obtain ⟨_, _, GX_need_asked, gX_need_asked, kX_need_asked, bX_need_asked⟩ := hX_need_asked
  refine okE Fn sc_stands_from ?len (fun cdv A outer s H E hr => ⟨_, (pss_cons (ps_expr (pe_call GX_need_asked (hr.mono (by first | decide | omega)) (by rfl) gX_need_asked kX_need_asked bX_need_asked .nil passE (pa_cons (pv 0) (pa_cons (pv 1) (pa_cons (pv 2) pa_nil)))))
      pss_never), ?_⟩)
  case len =>
    intro M ss C' h
    obtain ⟨_, _, _, rfl, _⟩ := xna_len h; rfl
  rintro M ss C' h F L σ H D hE hL o
  try dsimp only [cxOf]
  obtain ⟨a, b, c, rfl, rfl⟩ := xna_len h
  exact xq_drop (fun Q => x_call (EvA.cons (ev_varD (d := a) rfl) (EvA.cons (ev_varD (d := b) rfl) (EvA.cons (ev_varD (d := c) rfl) EvA.nil))) [] (List.nil_sublist _) h (fun H1 o1 => hE _ o1.fr (o1.mobs fun x hx => hx)) o)

theorem okX_stands_from (B : Bl mg) {ce : CE} (YE : ErrsC K mg ce) (T : Raw K mg "stands_from" "stands_from" s_stands_from) (hX_need_asked : HasX P w K mg base 24 "need_asked" ["length", "stretch", "place"] (spE K (fun M ss C => XD ce X_need_askedA M ss C ∨ XD ce X_need_askedB M ss C ∨ XD ce X_need_askedC M ss C ∨ XD ce X_need_askedD M ss C))) : HasX P w K mg base 26 "stands_from" ["length", "stretch", "place"] (spE K (fun M ss C => XD ce X_need_askedA M ss C ∨ XD ce X_need_askedB M ss C ∨ XD ce X_need_askedC M ss C ∨ XD ce X_need_askedD M ss C)) := by
  obtain ⟨f, fd, Fn, hg⟩ := T
  exact ⟨f, fd, ((okX_stands_from_A Fn B YE hX_need_asked).mono (by decide)), hg, Fn.kp, Fn.binds fun _ _ _ _ _ _ us hl => match us, hl with | [_, _, _], _ => rfl⟩
abbrev Y_stands_from := Y_need_asked
theorem okXX_stands_from (T : Raw K mg "stands_from" "stands_from" s_stands_from) (B : Bl mg) {C_TooLong : Addr} (YT : XfE K mg "TooLong" C_TooLong "most") (YI : XfI P w K mg base C_TooLong "most" 1) (hXX_need_asked : HasX P w K mg base 24 "need_asked" ["length", "stretch", "place"] (spX K C_TooLong "most" Y_need_asked)) : HasX P w K mg base 26 "stands_from" ["length", "stretch", "place"] (spX K C_TooLong "most" Y_stands_from) := by
  obtain ⟨f, fd, Fn, hg⟩ := T
  obtain ⟨_, _, GXX_need_asked, gXX_need_asked, kXX_need_asked, bXX_need_asked⟩ := hXX_need_asked
  refine ⟨f, fd, okX Fn sc_stands_from ?len (fun cdv A outer s H E hr => ⟨_, (pss_cons (ps_expr (pe_call GXX_need_asked (hr.mono (by first | decide | omega)) (by rfl) gXX_need_asked kXX_need_asked bXX_need_asked .nil passE (pa_cons (pv 0) (pa_cons (pv 1) (pa_cons (pv 2) pa_nil)))))
      pss_never), ?_⟩), hg, Fn.kp, Fn.binds fun _ _ _ _ _ _ us hl => match us, hl with | [_, _, _], _ => rfl⟩
  case len =>
    rintro M ss m ⟨n, e1, e2, rfl, rfl, rfl, h1, h2⟩ <;> rfl
  rintro M ss m ⟨n, e1, e2, rfl, rfl, rfl, h1, h2⟩ F L σ H D hE hL o
  try dsimp only [cxOf]
  exact xq_drop (fun Q => x_callX (EvA.cons (ev_varD (d := .int n) rfl) (EvA.cons (ev_varD (d := e1) rfl) (EvA.cons (ev_varD (d := e2) rfl) EvA.nil))) [] (List.nil_sublist _) ⟨n, e1, e2, rfl, rfl, rfl, h1, h2⟩ (fun d H1 nl nd hd hx o1 => hE d _ nd hd hx o1.fr (o1.mobs fun x hx => hx)) o)

theorem okX_steps_from_A {f : Addr} {fd : FuncData} (Fn : Fun K "steps_from" "steps_from" s_steps_from f fd) (B : Bl mg) {ce : CE} (YE : ErrsC K mg ce) (hX_need_asked : HasX P w K mg base 24 "need_asked" ["length", "stretch", "place"] (spE K (fun M ss C => XD ce X_need_askedA M ss C ∨ XD ce X_need_askedB M ss C ∨ XD ce X_need_askedC M ss C ∨ XD ce X_need_askedD M ss C))) : FnOk P w K mg base (L2N.CX P w) 26 f fd ["length", "stretch", "place"] (spE K (fun M ss C => XD ce X_need_askedA M ss C ∨ XD ce X_need_askedB M ss C ∨ XD ce X_need_askedC M ss C ∨ XD ce X_need_askedD M ss C)) := by
  obtain ⟨_, _, GX_need_asked, gX_need_asked, kX_need_asked, bX_need_asked⟩ := hX_need_asked
  refine okE Fn sc_steps_from ?len (fun cdv A outer s H E hr => ⟨_, (pss_cons (ps_expr (pe_call GX_need_asked (hr.mono (by first | decide | omega)) (by rfl) gX_need_asked kX_need_asked bX_need_asked .nil passE (pa_cons (pv 0) (pa_cons (pv 1) (pa_cons (pv 2) pa_nil)))))
      pss_never), ?_⟩)
  case len =>
    intro M ss C' h
    obtain ⟨_, _, _, rfl, _⟩ := xna_len h; rfl
  rintro M ss C' h F L σ H D hE hL o
  try dsimp only [cxOf]
  obtain ⟨a, b, c, rfl, rfl⟩ := xna_len h
  exact xq_drop (fun Q => x_call (EvA.cons (ev_varD (d := a) rfl) (EvA.cons (ev_varD (d := b) rfl) (EvA.cons (ev_varD (d := c) rfl) EvA.nil))) [] (List.nil_sublist _) h (fun H1 o1 => hE _ o1.fr (o1.mobs fun x hx => hx)) o)

theorem okX_steps_from (B : Bl mg) {ce : CE} (YE : ErrsC K mg ce) (T : Raw K mg "steps_from" "steps_from" s_steps_from) (hX_need_asked : HasX P w K mg base 24 "need_asked" ["length", "stretch", "place"] (spE K (fun M ss C => XD ce X_need_askedA M ss C ∨ XD ce X_need_askedB M ss C ∨ XD ce X_need_askedC M ss C ∨ XD ce X_need_askedD M ss C))) : HasX P w K mg base 26 "steps_from" ["length", "stretch", "place"] (spE K (fun M ss C => XD ce X_need_askedA M ss C ∨ XD ce X_need_askedB M ss C ∨ XD ce X_need_askedC M ss C ∨ XD ce X_need_askedD M ss C)) := by
  obtain ⟨f, fd, Fn, hg⟩ := T
  exact ⟨f, fd, ((okX_steps_from_A Fn B YE hX_need_asked).mono (by decide)), hg, Fn.kp, Fn.binds fun _ _ _ _ _ _ us hl => match us, hl with | [_, _, _], _ => rfl⟩
abbrev Y_steps_from := Y_need_asked
theorem okXX_steps_from (T : Raw K mg "steps_from" "steps_from" s_steps_from) (B : Bl mg) {C_TooLong : Addr} (YT : XfE K mg "TooLong" C_TooLong "most") (YI : XfI P w K mg base C_TooLong "most" 1) (hXX_need_asked : HasX P w K mg base 24 "need_asked" ["length", "stretch", "place"] (spX K C_TooLong "most" Y_need_asked)) : HasX P w K mg base 26 "steps_from" ["length", "stretch", "place"] (spX K C_TooLong "most" Y_steps_from) := by
  obtain ⟨f, fd, Fn, hg⟩ := T
  obtain ⟨_, _, GXX_need_asked, gXX_need_asked, kXX_need_asked, bXX_need_asked⟩ := hXX_need_asked
  refine ⟨f, fd, okX Fn sc_steps_from ?len (fun cdv A outer s H E hr => ⟨_, (pss_cons (ps_expr (pe_call GXX_need_asked (hr.mono (by first | decide | omega)) (by rfl) gXX_need_asked kXX_need_asked bXX_need_asked .nil passE (pa_cons (pv 0) (pa_cons (pv 1) (pa_cons (pv 2) pa_nil)))))
      pss_never), ?_⟩), hg, Fn.kp, Fn.binds fun _ _ _ _ _ _ us hl => match us, hl with | [_, _, _], _ => rfl⟩
  case len =>
    rintro M ss m ⟨n, e1, e2, rfl, rfl, rfl, h1, h2⟩ <;> rfl
  rintro M ss m ⟨n, e1, e2, rfl, rfl, rfl, h1, h2⟩ F L σ H D hE hL o
  try dsimp only [cxOf]
  exact xq_drop (fun Q => x_callX (EvA.cons (ev_varD (d := .int n) rfl) (EvA.cons (ev_varD (d := e1) rfl) (EvA.cons (ev_varD (d := e2) rfl) EvA.nil))) [] (List.nil_sublist _) ⟨n, e1, e2, rfl, rfl, rfl, h1, h2⟩ (fun d H1 nl nd hd hx o1 => hE d _ nd hd hx o1.fr (o1.mobs fun x hx => hx)) o)
def X_stands_at_allA (ds : List PyData) (x : Er) : Prop := ∃ d, ds = [d] ∧ within d 1 60 = false ∧ x = .length
theorem okX_stands_at_all_A {f : Addr} {fd : FuncData} (Fn : Fun K "stands_at_all" "stands_at_all" s_stands_at_all f fd) (B : Bl mg) {ce : CE} (YE : ErrsC K mg ce) {t_MOST : Tok} (g_MOST : mg "MOST" = some (.int 16 t_MOST)) (hX_need_short : HasX P w K mg base 22 "need_short" ["length", "most"] (spE K (XD ce X_need_shortA))) : FnOk P w K mg base (L2N.CX P w) 26 f fd ["length"] (spE K (XD ce X_stands_at_allA)) := by
  obtain ⟨_, _, GX_need_short, gX_need_short, kX_need_short, bX_need_short⟩ := hX_need_short
  refine okE Fn sc_stands_at_all ?len (fun cdv A outer s H E hr => ⟨_, (pss_cons (ps_expr (pe_call GX_need_short (hr.mono (by first | decide | omega)) (by rfl) gX_need_short kX_need_short bX_need_short .nil passE (pa_cons (pv 0) (pa_cons (pe_glob (by rfl) g_MOST (show RelV (.int 16) _ from ⟨_, rfl⟩)) pa_nil))))
      pss_never), ?_⟩)
  case len =>
    rintro M ss C' ⟨_, _, rfl, rfl, ⟨d, rfl, hw, rfl⟩, rfl⟩ <;> rfl
  rintro M ss C' ⟨_, _, rfl, rfl, ⟨d, rfl, hw, rfl⟩, rfl⟩ F L σ H D hE hL o
  try dsimp only [cxOf]
  exact xq_drop (fun Q => x_call (EvA.cons (ev_varD (d := d) rfl) (EvA.cons (ev_int (i := 16)) EvA.nil)) [] (List.nil_sublist _) ⟨[d, .int 16], .length, rfl, rfl, ⟨_, _, rfl, hw, rfl⟩, rfl⟩ (fun H1 o1 => hE _ o1.fr (o1.mobs fun x hx => hx)) o)

theorem okX_stands_at_all (B : Bl mg) {ce : CE} (YE : ErrsC K mg ce) (T : Raw K mg "stands_at_all" "stands_at_all" s_stands_at_all) {t_MOST : Tok} (g_MOST : mg "MOST" = some (.int 16 t_MOST)) (hX_need_short : HasX P w K mg base 22 "need_short" ["length", "most"] (spE K (XD ce X_need_shortA))) : HasX P w K mg base 26 "stands_at_all" ["length"] (spE K (XD ce X_stands_at_allA)) := by
  obtain ⟨f, fd, Fn, hg⟩ := T
  exact ⟨f, fd, ((okX_stands_at_all_A Fn B YE g_MOST hX_need_short).mono (by decide)), hg, Fn.kp, Fn.binds fun _ _ _ _ _ _ us hl => match us, hl with | [_], _ => rfl⟩
def Y_stands_at_all (M : Ms) (ss : List Sl) (m : Int) : Prop := ∃ (n : Int), M = [] ∧ ss = [.dat (.int n)] ∧ m = 16 ∧ 16 < n ∧ n ≤ 60
theorem okXX_stands_at_all (T : Raw K mg "stands_at_all" "stands_at_all" s_stands_at_all) (B : Bl mg) {C_TooLong : Addr} (YT : XfE K mg "TooLong" C_TooLong "most") (YI : XfI P w K mg base C_TooLong "most" 1) {t_MOST : Tok} (g_MOST : mg "MOST" = some (.int 16 t_MOST)) (hXX_need_short : HasX P w K mg base 22 "need_short" ["length", "most"] (spX K C_TooLong "most" Y_need_short)) : HasX P w K mg base 26 "stands_at_all" ["length"] (spX K C_TooLong "most" Y_stands_at_all) := by
  obtain ⟨f, fd, Fn, hg⟩ := T
  obtain ⟨_, _, GXX_need_short, gXX_need_short, kXX_need_short, bXX_need_short⟩ := hXX_need_short
  refine ⟨f, fd, okX Fn sc_stands_at_all ?len (fun cdv A outer s H E hr => ⟨_, (pss_cons (ps_expr (pe_call GXX_need_short (hr.mono (by first | decide | omega)) (by rfl) gXX_need_short kXX_need_short bXX_need_short .nil passE (pa_cons (pv 0) (pa_cons (pe_glob (by rfl) g_MOST (show RelV (.int 16) _ from ⟨_, rfl⟩)) pa_nil))))
      pss_never), ?_⟩), hg, Fn.kp, Fn.binds fun _ _ _ _ _ _ us hl => match us, hl with | [_], _ => rfl⟩
  case len =>
    rintro M ss m ⟨n, rfl, rfl, rfl, h1, h2⟩ <;> rfl
  rintro M ss m ⟨n, rfl, rfl, rfl, h1, h2⟩ F L σ H D hE hL o
  try dsimp only [cxOf]
  exact xq_drop (fun Q => x_callX (EvA.cons (ev_varD (d := .int n) rfl) (EvA.cons (ev_int (i := 16)) EvA.nil)) [] (List.nil_sublist _) ⟨n, rfl, rfl, by omega, h2, h1⟩ (fun d H1 nl nd hd hx o1 => hE d _ nd hd hx o1.fr (o1.mobs fun x hx => hx)) o)
/-! a kept search: the class's methods -/
structure SearchC (K : PySem.W.Frag) (mg : Str → Option Value) (C : Addr) : Prop where
  cl : Cls K C
  nL : NoAttr K C "length"
  nP : NoAttr K C "past"
  g : mg "Search" = some (.ref C)
abbrev Hst := List (List Int × List Str)
abbrev srF (n : Nat) (q : Addr) : List (Str × Sl) := [("length", .dat (.int n)), ("past", .loc (.ref q))]
abbrev stD (h : List Int × List Str) : PyData := .tuple [dI h.1, dS h.2]
abbrev pstD (hs : Hst) : List PyData := hs.map stD
abbrev srM (C : Addr) (n : Nat) (hs : Hst) (p q : Addr) : Ms := [(p, .ins C (srF n q)), (q, .lst (pstD hs))]
abbrev sPast : Str := "past"
theorem kLP : ¬ (sLen = sPast) := by decide +kernel
theorem sr_put (a b : Sl) : putS sPast b [(sLen, a)] = [(sLen, a), (sPast, b)] := by
  show (if sLen = sPast then _ else (sLen, a) :: [(sPast, b)]) = _
  rw [if_neg kLP]
theorem sr_len (n : Nat) (q : Addr) : (srF n q).lookup sLen = some (.dat (.int n)) := by
  rw [List.lookup_cons, show (sLen == "length") = true by decide +kernel]
theorem sr_past (n : Nat) (q : Addr) : (srF n q).lookup sPast = some (.loc (.ref q)) := by
  rw [List.lookup_cons, show (sPast == "length") = false by decide +kernel]
  dsimp only
  rw [List.lookup_cons, show (sPast == "past") = true by decide +kernel]
theorem sr_no (n : Nat) (q : Addr) {m : Str} (h : m ∈ (["waits", "stand", "answer", "back", "stands", "answers", "can_lie"] : List Str)) : (srF n q).lookup m = none := by
  have g : (m == "length") = false ∧ (m == "past") = false := by
    revert h; revert m; decide +kernel
  rw [List.lookup_cons, g.1]; dsimp only
  rw [List.lookup_cons, g.2]; rfl
theorem cutD_take (xs : List PyData) (k : Nat) : cutD xs none (some (k : Int)) = xs.take k := by
  unfold cutD
  have h0 : HT.sIx xs.length 0 none = 0 := rfl
  have h1 : HT.sIx xs.length xs.length (some (k : Int)) = min k xs.length := by
    unfold HT.sIx
    simp
    omega
  rw [h0, h1, List.drop_zero, Nat.sub_zero]
  by_cases h : k ≤ xs.length
  · rw [Nat.min_eq_left h]
  · rw [Nat.min_eq_right (by omega), List.take_of_length_le (Nat.le_refl _), List.take_of_length_le (by omega)]
theorem atI_last {α : Type} (xs : List α) (x : α) : atI (xs ++ [x]) (-1) = some x := by
  rw [atI_neg1 (by simp), List.length_append, List.length_singleton, Nat.add_sub_cancel, List.getElem?_append_right (Nat.le_refl _), Nat.sub_self]; rfl
theorem pstD_snoc (hs : Hst) (h : List Int × List Str) : pstD (hs ++ [h]) = pstD hs ++ [stD h] := by
  show List.map stD (hs ++ [h]) = _
  rw [List.map_append]; rfl
theorem Sw.app {A M0 Mn : Ms} (hn : ad Mn = ad M0) (nd : (ad (A ++ M0)).Nodup) : Sw M0 Mn (A ++ M0) (A ++ Mn) := by
  have e : ∀ X : Ms, ad (A ++ X) = ad A ++ ad X := fun X => List.map_append ..
  refine ⟨List.sublist_append_right .., by rw [e, e, hn], fun x hx => ?_⟩
  rw [e] at nd
  rcases List.mem_append.mp hx with z | z
  · exact .inr ⟨List.mem_append_left _ z, fun z2 => (List.nodup_append.mp nd).2.2 x.1 (List.mem_map.mpr ⟨x, z, rfl⟩) x.1 z2 rfl⟩
  · exact .inl z
section
variable {K : PySem.W.Frag} {mg : Str → Option Value} {C p q : Addr} {n : Nat} {hs hs' : Hst} {ρ : List Sl} {A M1 : Ms} {ta tb tc td : TE} {E : XK} {xs : List Int} {ws : List Str}
theorem mem_sr0 : (p, MO.ins C (srF n q)) ∈ A ++ srM C n hs p q := List.mem_append_right _ List.mem_cons_self
theorem mem_sr1 : (q, MO.lst (pstD hs)) ∈ A ++ srM C n hs p q := List.mem_append_right _ (List.mem_cons_of_mem _ List.mem_cons_self)
theorem ev_srLen (Y : SearchC K mg C) (ha : Ev K ta ρ M1 (.loc (.ref p)) M1) (hp : (p, MO.ins C (srF n q)) ∈ M1) : Ev K (tFld K ta "length") ρ M1 (.dat (.int n)) M1 := ev_fld ha hp Y.cl Y.nL (sr_len n q)
theorem ev_srPast (Y : SearchC K mg C) (ha : Ev K ta ρ M1 (.loc (.ref p)) M1) (hp : (p, MO.ins C (srF n q)) ∈ M1) : Ev K (tFld K ta "past") ρ M1 (.loc (.ref q)) M1 := ev_fld ha hp Y.cl Y.nP (sr_past n q)
theorem ev_srLast (Y : SearchC K mg C) (ha : Ev K ta ρ (srM C n (hs ++ [(xs, ws)]) p q) (.loc (.ref p)) (srM C n (hs ++ [(xs, ws)]) p q)) (hb : Ev K tb ρ (srM C n (hs ++ [(xs, ws)]) p q) (.dat (.int (-1))) (srM C n (hs ++ [(xs, ws)]) p q)) :
    Ev K (tOp (rIxL K) (tFld K ta "past") tb) ρ (srM C n (hs ++ [(xs, ws)]) p q) (.dat (stD (xs, ws))) (srM C n (hs ++ [(xs, ws)]) p q) :=
  ev_ixM (ev_srPast Y ha List.mem_cons_self) hb (List.mem_cons_of_mem _ List.mem_cons_self) (by rw [pstD_snoc]; exact atI_last _ _)
/-- a method -/
theorem ev_srM {R : Ms → List Sl → PyData → Ms → Prop} {m : Str} {tr : TA} {ss : List Sl} {r : PyData} (hm : m ∈ (["waits", "stand", "answer", "back", "stands", "answers", "can_lie"] : List Str)) (ha : Ev K ta ρ (A ++ srM C n hs p q) (.loc (.ref p)) (A ++ srM C n hs p q))
    (hr : EvA K tr ρ (A ++ srM C n hs p q) ss (A ++ srM C n hs p q)) (hR : R (srM C n hs p q) (.loc (.ref p) :: ss) r (srM C n hs' p q)) :
    Ev K (tMeth C m (spMs K R) [] E ta tr) ρ (A ++ srM C n hs p q) (.dat r) (A ++ srM C n hs' p q) :=
  ev_methMs ha mem_sr0 (sr_no n q hm) hr (srM C n hs p q) (srM C n hs' p q) rfl (fun nd => Sw.app rfl nd) hR
end
def R_sInit (ds : List PyData) (fO : Addr → List (Str × Sl)) (qO : MO) : Prop := ∃ n : Nat, ds = [.int n] ∧ (1 ≤ n ∧ n ≤ 60) ∧ fO = srF n ∧ qO = .lst (pstD [([], [])])
abbrev s_Search___init__ : Stmt := inClass (topS 50) 0
theorem sc_Search___init__ : FnScope ["self", "length"] ["self", "length"] (defScope s_Search___init__) := ⟨rfl, rfl, rfl, by decide +kernel, rfl, by decide +kernel, by decide +kernel⟩
theorem ok_Search___init__ {C : Addr} (Y : SearchC K mg C) (T : RawI K C "Search.__init__" s_Search___init__) (B : Bl mg) (h_need_length : Has P w K mg base 2 "need_length" ["length"] (spP K R_need_length)) : HasI P w K mg base C 12 ["self", "length"] (spI K C R_sInit) := by
  have c_Search := Y.cl
  have g_Search := Y.g
  obtain ⟨f, fd, Fn, Mt⟩ := T
  obtain ⟨_, _, G_need_length, g_need_length, k_need_length, b_need_length⟩ := h_need_length
  refine ⟨f, fd, okI Fn sc_Search___init__ ?len (fun cdv A outer s H E hr => ⟨_, (pss_cons (ps_expr (pe_call G_need_length (hr.mono (by first | decide | omega)) (by rfl) g_need_length k_need_length b_need_length .nil pass0 (pa_cons (pv 1) pa_nil)))
      (pss_cons (ps_fld (pv 0) (pv 1) rfl)
      (pss_one (ps_fld (pv 0) (pe_lst (pa_cons (pe_tup (pa_cons (pe_lst pa_nil) (pa_cons (pe_lst pa_nil) pa_nil))) pa_nil)) rfl)))), ?_⟩), Mt, Fn.binds fun _ _ _ _ _ _ us hl => match us, hl with | [_, _], _ => rfl⟩
  case len =>
    rintro ds fO qO ⟨n, rfl, hn, rfl, rfl⟩; rfl
  rintro ds fO qO ⟨n, rfl, hn, rfl, rfl⟩ F L p σ H D hnx hp o
  try dsimp only [cxOf]
  replace o : Ok K F L σ H [.loc (.ref p), .dat (.int n)] [(p, .ins C [])] := o
  refine q_drop0 (ev_need_length (ev_varD rfl) (within_int (by omega))) (fun σ H o => ?_) o
  refine q_fld (j := 0) (ev_varD rfl) (ev_varL rfl) rfl Y.cl Y.nL (by decide) (fun H o => ?_) o
  refine s_fldNew (j := 0) (nw_list (ds := pstD [([], [])]) (evn_lst (ds := [.tuple [.list [], .list []]]) (EvA.cons (ev_tupD (ds := [.list [], .list []]) (ed_cons (EvN.ev (evn_lst (ds := []) EvA.nil)) (ed_cons (EvN.ev (evn_lst (ds := []) EvA.nil)) ed_nil)) (by simp)) EvA.nil))) (fun q => ev_varL rfl) rfl Y.cl Y.nP (by simp [putS]) (fun q H o => ?_) o
  have e : ([(p, MO.ins C (putS "length" (.dat (.int n)) []))] ++ [(q, MO.lst (pstD [([], [])]))]).set 0 (p, .ins C (putS "past" (.loc (.ref q)) (putS "length" (.dat (.int n)) []))) = srM C n [([], [])] p q := by
    show [(p, MO.ins C (putS sPast (.loc (.ref q)) [(sLen, .dat (.int n))])), (q, .lst (pstD [([], [])]))] = _
    rw [sr_put]
  replace o : Ok K F L σ H [.loc (.ref p), .dat (.int n)] (srM C n [([], [])] p q) := e ▸ o
  exact hnx q _ _ o
section
variable {P : Program} {w : World} {K : PySem.W.Frag} {mg : Str → Option Value} {base : Heap}
variable {F F' H H' H0 H1 : Hp} {L : List Addr} {σ σ' : L2.St} {ρ ρ' : List Sl} {M M' M0 M1 M2 Mn : Ms} {tr : TA} {s : Sl} {ss : List Sl} {C C0 : Addr} {E : XK} {Q : VK} {sp : Sp}
/-- C(..), its __init__ refuses -/
theorem x_make {R : Ms → List Sl → Addr → Prop} (ha : EvA K tr ρ M ss M) (hR : ∀ x, R [] (.loc (.ref x) :: ss) C) (hE : ∀ H1, Ok K F L σ H1 ρ M → E (.ref C) none H1) (o : Ok K F L σ H ρ M) : tMake C0 (spE K R) [] E tr σ H Q := ha F L σ H o _ fun vs H1 o1 e1 a1 x1 => fun x dx hx hdx ne => by
  have hx2 : (upd H1 dx (.own x)) x = none := (upd_ne (Ne.symm ne)).trans hx
  have o2 := (o1.new (x := .own x) hdx).new (x := .ins C0 dx []) hx2
  rw [List.append_nil]
  refine x_sp (ss := .loc (.ref x) :: ss) o2 [] (List.nil_sublist _) (.cons rfl (Paired.mapP x1 fun _ _ q => q.mono (hid_mono ((same_new hdx).trans (same_new hx2))))) (hR x) hE
end
/-! what is told of a refusal -/
def nmL : List Str := ["NoLength", "NoPlace", "NotNow", "NoStands", "NoAnswers", "NoStretch", "NoAnswer", "Never", "NothingLeft"]
/-- T: TooLong, S: SeekError, es: the classes that are asked for -/
structure RefE (K : PySem.W.Frag) (T S : Addr) (es : List Addr) (D : Addr) (nm : Str) : Prop where
  xc : ExcC K D
  n : PySem.W.exmOne K (.ref D) (.ref T) = some false
  y : PySem.W.exmOne K (.ref D) (.ref S) = some true
  v : PySem.W.kitOne K (.ref D) (.type "ValueError") = some true
  i : ∃ i : Nat, nmL[i]? = some nm ∧ ∀ (j : Nat) (c : Addr), es[j]? = some c → PySem.W.kitOne K (.ref D) (.ref c) = some (decide (i = j))
structure RefT (K : PySem.W.Frag) (T : Addr) : Prop where
  xc : ExcC K T
  xf : XfC K T
  no : PySem.W.findIn K (.ref T) "most" = some none
  y : PySem.W.exmOne K (.ref T) (.ref T) = some true
  v : PySem.W.kitOne K (.ref T) (.type "ValueError") = some true
/-- what a call of s0 with as is told as -/
def Ref15 (P : Program) (w : World) (K : PySem.W.Frag) (mg : Str → Option Value) (base : Heap) (T S : Addr) (es : List Addr) (s0 : Sl) (as : List Sl) (r : PyData) : Prop :=
  (∃ (sp : Sp) (R : Ms → List Sl → PyData → Ms → Prop) (v : PyData), CanL P w K mg base 60 s0 sp ∧ (∀ vs H Q E, spMs K R vs H Q E → sp vs H Q E) ∧ R [] as v [] ∧ r = .list []) ∨
  (∃ (sp : Sp) (X : Ms → List Sl → Addr → Prop) (D : Addr) (nm : Str), CanL P w K mg base 60 s0 sp ∧ (∀ vs H Q E, spE K X vs H Q E → sp vs H Q E) ∧ X [] as D ∧ RefE K T S es D nm ∧ r = .list [.str nm, .bool true]) ∨
  (∃ (sp : Sp) (Y : Ms → List Sl → Int → Prop) (m : Int), CanL P w K mg base 60 s0 sp ∧ (∀ vs H Q E, spX K T "most" Y vs H Q E → sp vs H Q E) ∧ Y [] as m ∧ r = .list [.str "TooLong", .int m, .bool true])
def R_ref15 (P : Program) (w : World) (K : PySem.W.Frag) (mg : Str → Option Value) (base : Heap) (T S : Addr) (es : List Addr) (M : Ms) (ss : List Sl) (r : PyData) (M' : Ms) : Prop :=
  ∃ s0 s1 s2 s3 : Sl, ss = [s0, s1, s2, s3] ∧ (s1 ≠ .un ∧ s2 ≠ .un ∧ s3 ≠ .un) ∧ M = [] ∧ M' = [] ∧ Ref15 P w K mg base T S es s0 [s1, s2, s3] r
section
variable {K : PySem.W.Frag} {ρ : List Sl} {M : Ms} {s : Sl} {i : Nat}
theorem ev_var (h : ρ[i]? = some s) (n : s ≠ .un) : Ev K (tVar i) ρ M s M := fun F L σ H o Q q => by
  obtain ⟨v, h1, h2⟩ := o.get h n
  exact ⟨v, h1, q v H o rfl (hid_le _ _) h2⟩
end
theorem given_one {i : Nat} {nm : Str} (h : nmL[i]? = some nm) : given 9 (fun k => decide (i = k)) (fun k => PyData.str (nmL.getD k Str.empty)) = [.str nm] := by
  have hi : i < 9 := (List.getElem?_eq_some_iff.mp h).1
  have c : i = 0 ∨ i = 1 ∨ i = 2 ∨ i = 3 ∨ i = 4 ∨ i = 5 ∨ i = 6 ∨ i = 7 ∨ i = 8 := by omega
  have e : nmL.getD i Str.empty = nm := by rw [List.getD_eq_getElem?_getD, h]; rfl
  rw [← e]
  rcases c with c | c | c | c | c | c | c | c | c <;> subst c <;> rfl
def X_sInit (ce : CE) (M : Ms) (ss : List Sl) (C : Addr) : Prop := ∃ (p : Addr) (d : PyData), M = [] ∧ ss = [.loc (.ref p), .dat d] ∧ within d 1 60 = false ∧ C = ce .length
theorem okX_Search___init___A {f : Addr} {fd : FuncData} (Fn : Fun K "__init__" "Search.__init__" s_Search___init__ f fd) (B : Bl mg) {ce : CE} (YE : ErrsC K mg ce) {C_Search : Addr} (Y_Search : SearchC K mg C_Search) (hX_need_length : HasX P w K mg base 20 "need_length" ["length"] (spE K (XD ce X_need_lengthA))) : FnOk P w K mg base (L2N.CX P w) 22 f fd ["self", "length"] (spE K (X_sInit ce)) := by
  have c_Search := Y_Search.cl
  have g_Search := Y_Search.g
  obtain ⟨_, _, GX_need_length, gX_need_length, kX_need_length, bX_need_length⟩ := hX_need_length
  refine okE Fn sc_Search___init__ ?len (fun cdv A outer s H E hr => ⟨_, (pss_cons (ps_expr (pe_call GX_need_length (hr.mono (by first | decide | omega)) (by rfl) gX_need_length kX_need_length bX_need_length .nil passE (pa_cons (pv 1) pa_nil)))
      pss_never), ?_⟩)
  case len =>
    rintro M ss C' ⟨p, d, rfl, rfl, hw, rfl⟩ <;> rfl
  rintro M ss C' ⟨p, d, rfl, rfl, hw, rfl⟩ F L σ H D hE hL o
  try dsimp only [cxOf]
  exact xq_drop (fun Q => x_call (EvA.cons (ev_varD (d := d) rfl) EvA.nil) [] (List.nil_sublist _) ⟨[d], .length, rfl, rfl, ⟨_, rfl, hw, rfl⟩, rfl⟩ (fun H1 o1 => hE _ o1.fr (o1.mobs fun x hx => hx)) o)

abbrev s_TooLong___init__ : Stmt := inClass (topS 12) 0
theorem sc_TooLong___init__ : FnScope ["self", "most"] ["self", "most"] (defScope s_TooLong___init__) := ⟨rfl, rfl, rfl, by decide +kernel, rfl, by decide +kernel, by decide +kernel⟩
theorem ok_TooLong_init {f : Addr} {fd : FuncData} (Fn : Fun K "__init__" "TooLong.__init__" s_TooLong___init__ f fd) {S C : Addr} (g_SeekError : mg "SeekError" = some (.ref S)) (h1 : PySem.W.specialIn K (.ref S) "__getattribute__" = some (some (.builtin "type.__getattribute__"))) (h2 : PySem.W.typeIn K (.ref S) = some (.type "type")) (h3 : PySem.W.readsIn K S (.type "type") = true)
    (h4 : PySem.W.findCls K (.ref S) (.type "type") "__init__" = some (.val (.builtin "ValueError.__init__"))) (T : OexC K C) (hno : PySem.W.findIn K (.ref C) "most" = some none) : FnOk P w K mg base CX0 1 f fd ["self", "most"] (spXI C "most") := by
  obtain ⟨oc, od, kV, doc, pm, an, cdv, ct, osl, rfl, lk, hcd⟩ := Fn.ex
  refine fn_of lk hcd sc_TooLong___init__ (fun vs H Q E h => ?_) fun A outer s H vs Q E hr h => ⟨_, (pss_cons (ps_expr (pe_ceinit (by rfl) g_SeekError h1 h2 h3 h4 (pa_cons (pv 0) (pa_cons pe_str pa_nil)))) (pss_one (ps_ost (pv 0) (pv 1)))), ?_⟩
  · obtain ⟨a, m, rfl, _⟩ := h; rfl
  · obtain ⟨a, m, rfl, ea, q⟩ := h
    exact ⟨.ref a, rfl, a, C, _, rfl, by simp, T, ea, .int m, rfl, .ref a, rfl, a, C, rfl, T, hno, .inl ⟨ea, fun dx n ne => q dx n ne⟩⟩

abbrev s_law_refused : Stmt := topS 58
theorem sc_law_refused : FnScope ["call", "one", "two", "three", "kin", "e", "words", "word", "there"] ["call", "one", "two", "three"] (defScope s_law_refused) := ⟨rfl, rfl, rfl, by decide +kernel, rfl, by decide +kernel, by decide +kernel⟩
theorem ok_law_refused (T : Raw K mg "_law_refused" "_law_refused" s_law_refused) (B : Bl mg) {C_TooLong C_SeekError C_NoLength C_NoPlace C_NotNow C_NoStands C_NoAnswers C_NoStretch C_NoAnswer C_Never C_NothingLeft : Addr}
    (g_TooLong : mg "TooLong" = some (.ref C_TooLong)) (g_SeekError : mg "SeekError" = some (.ref C_SeekError)) (g_NoLength : mg "NoLength" = some (.ref C_NoLength)) (g_NoPlace : mg "NoPlace" = some (.ref C_NoPlace)) (g_NotNow : mg "NotNow" = some (.ref C_NotNow)) (g_NoStands : mg "NoStands" = some (.ref C_NoStands)) (g_NoAnswers : mg "NoAnswers" = some (.ref C_NoAnswers)) (g_NoStretch : mg "NoStretch" = some (.ref C_NoStretch)) (g_NoAnswer : mg "NoAnswer" = some (.ref C_NoAnswer)) (g_Never : mg "Never" = some (.ref C_Never)) (g_NothingLeft : mg "NothingLeft" = some (.ref C_NothingLeft)) (hT : RefT K C_TooLong) :
    Has P w K mg base 61 "_law_refused" ["call", "one", "two", "three"] (spMs K (R_ref15 P w K mg base C_TooLong C_SeekError [C_NoLength, C_NoPlace, C_NotNow, C_NoStands, C_NoAnswers, C_NoStretch, C_NoAnswer, C_Never, C_NothingLeft])) := by
  obtain ⟨f, fd, Fn, hg⟩ := T
  refine ⟨f, fd, okMs Fn sc_law_refused ?len (fun cdv A outer s H E hr => ⟨_, (pss_cons (ps_set (i := 4) sc_law_refused.nd rfl (by first | exact .inl rfl | exact .inr rfl) (pe_lst pa_nil))
      (pss_cons (L2N.ps_try_manyN (i := 5) rfl rfl sc_law_refused.nd rfl (by rfl) takes_never (fun W pn xe tk _ => (pss_one (ps_expr (w_callv (P' := P) (w' := w) (K' := K) (mg' := mg) (base' := base) rfl rfl rfl rfl rfl (i := 0) (k := 60) hr (by first | decide | omega) (fun σ => L2N.passAt tk σ) rfl (by first | exact .inl rfl | exact .inr rfl) (pa_cons (pv 1) (pa_cons (pv 2) (pa_cons (pv 3) pa_nil))))))) (L2N.HdsN.cons ⟨by rfl, by decide, .inl g_TooLong⟩ (fun a oe cls d pn hz hf => suite_exD (f := "most") hz fun D dd xc xf no hz => (pss_one (ps_set (i := 4) sc_law_refused.nd rfl (by first | exact .inl rfl | exact .inr rfl) (pe_lst (pa_cons pe_str (pa_cons (w_xf (K' := K) rfl xf no hz hf (pv 5)) (pa_cons (pe_callB (w_isED (K' := K) rfl xc hz hf) (by rfl) B.isinstance_ (by decide +kernel) (pa_cons (pv 5) (pa_cons (pe_bltn (by rfl) B.ValueError_ (by decide +kernel) (show RelV (.ty "ValueError") _ from rfl)) pa_nil))) pa_nil))))))) (L2N.HdsN.cons ⟨by rfl, by decide, .inl g_SeekError⟩ (fun a oe cls d pn hz hf => suite_ex hz fun D xc hz => (pss_cons (ps_set (i := 6) sc_law_refused.nd rfl (by first | exact .inl rfl | exact .inr rfl) (pe_lst (pa_cons (pe_tup (pa_cons pe_str (pa_cons (pe_callB (w_isE (K' := K) rfl xc hz hf) (by rfl) B.isinstance_ (by decide +kernel) (pa_cons (pv 5) (pa_cons (pe_glob (by rfl) g_NoLength (show RelV (.ref C_NoLength) _ from rfl)) pa_nil))) pa_nil))) (pa_cons (pe_tup (pa_cons pe_str (pa_cons (pe_callB (w_isE (K' := K) rfl xc hz hf) (by rfl) B.isinstance_ (by decide +kernel) (pa_cons (pv 5) (pa_cons (pe_glob (by rfl) g_NoPlace (show RelV (.ref C_NoPlace) _ from rfl)) pa_nil))) pa_nil))) pa_nil))))
      (pss_cons (ps_set (i := 6) sc_law_refused.nd rfl (by first | exact .inl rfl | exact .inr rfl) (pe_op o_cat (pv 6) (pe_lst (pa_cons (pe_tup (pa_cons pe_str (pa_cons (pe_callB (w_isE (K' := K) rfl xc hz hf) (by rfl) B.isinstance_ (by decide +kernel) (pa_cons (pv 5) (pa_cons (pe_glob (by rfl) g_NotNow (show RelV (.ref C_NotNow) _ from rfl)) pa_nil))) pa_nil))) pa_nil))))
      (pss_cons (ps_set (i := 6) sc_law_refused.nd rfl (by first | exact .inl rfl | exact .inr rfl) (pe_op o_cat (pv 6) (pe_lst (pa_cons (pe_tup (pa_cons pe_str (pa_cons (pe_callB (w_isE (K' := K) rfl xc hz hf) (by rfl) B.isinstance_ (by decide +kernel) (pa_cons (pv 5) (pa_cons (pe_glob (by rfl) g_NoStands (show RelV (.ref C_NoStands) _ from rfl)) pa_nil))) pa_nil))) (pa_cons (pe_tup (pa_cons pe_str (pa_cons (pe_callB (w_isE (K' := K) rfl xc hz hf) (by rfl) B.isinstance_ (by decide +kernel) (pa_cons (pv 5) (pa_cons (pe_glob (by rfl) g_NoAnswers (show RelV (.ref C_NoAnswers) _ from rfl)) pa_nil))) pa_nil))) pa_nil)))))
      (pss_cons (ps_set (i := 6) sc_law_refused.nd rfl (by first | exact .inl rfl | exact .inr rfl) (pe_op o_cat (pv 6) (pe_lst (pa_cons (pe_tup (pa_cons pe_str (pa_cons (pe_callB (w_isE (K' := K) rfl xc hz hf) (by rfl) B.isinstance_ (by decide +kernel) (pa_cons (pv 5) (pa_cons (pe_glob (by rfl) g_NoStretch (show RelV (.ref C_NoStretch) _ from rfl)) pa_nil))) pa_nil))) (pa_cons (pe_tup (pa_cons pe_str (pa_cons (pe_callB (w_isE (K' := K) rfl xc hz hf) (by rfl) B.isinstance_ (by decide +kernel) (pa_cons (pv 5) (pa_cons (pe_glob (by rfl) g_NoAnswer (show RelV (.ref C_NoAnswer) _ from rfl)) pa_nil))) pa_nil))) pa_nil)))))
      (pss_cons (ps_set (i := 6) sc_law_refused.nd rfl (by first | exact .inl rfl | exact .inr rfl) (pe_op o_cat (pv 6) (pe_lst (pa_cons (pe_tup (pa_cons pe_str (pa_cons (pe_callB (w_isE (K' := K) rfl xc hz hf) (by rfl) B.isinstance_ (by decide +kernel) (pa_cons (pv 5) (pa_cons (pe_glob (by rfl) g_Never (show RelV (.ref C_Never) _ from rfl)) pa_nil))) pa_nil))) (pa_cons (pe_tup (pa_cons pe_str (pa_cons (pe_callB (w_isE (K' := K) rfl xc hz hf) (by rfl) B.isinstance_ (by decide +kernel) (pa_cons (pv 5) (pa_cons (pe_glob (by rfl) g_NothingLeft (show RelV (.ref C_NothingLeft) _ from rfl)) pa_nil))) pa_nil))) pa_nil)))))
      (pss_one (ps_set (i := 4) sc_law_refused.nd rfl (by first | exact .inl rfl | exact .inr rfl) (pe_op o_cat (pe_lcX (hotK_suite hz hf) (own := [("word", 7), ("there", 8)]) (g := gTup K 2 (gCons (gName 7) (gCons (gName 8) gNil))) sc_law_refused.nd (wi_listX (K' := K) rfl (pv 6)) (blkOk_by (own := [("word", 7), ("there", 8)]) (N := ["call", "one", "two", "three", "kin", "e", "words", "word", "there"]) (sc := defScope s_law_refused) (by decide +kernel)) (fun _ _ _ _ _ hot => (pg_tupX hot (pgs_cons (pg_name (i := 7) sc_law_refused.nd rfl (by first | exact .inl rfl | exact .inr rfl)) (pgs_cons (pg_name (i := 8) sc_law_refused.nd rfl (by first | exact .inl rfl | exact .inr rfl)) pgs_nil)))) (fun _ _ _ _ _ => (pts_one (pt_val (pv 8)))) (fun _ _ _ _ _ => (pv 7))) (pe_lst (pa_cons (pe_callB (w_isE (K' := K) rfl xc hz hf) (by rfl) B.isinstance_ (by decide +kernel) (pa_cons (pv 5) (pa_cons (pe_bltn (by rfl) B.ValueError_ (by decide +kernel) (show RelV (.ty "ValueError") _ from rfl)) pa_nil))) pa_nil))))))))))) L2N.HdsN.nil)))
      (pss_one (ps_ret (pv 4))))), ?_⟩), hg, Fn.kp, Fn.binds fun _ _ _ _ _ _ us hl => match us, hl with | [_, _, _, _], _ => rfl⟩
  case len =>
    rintro M ss r M' ⟨s0, s1, s2, s3, rfl, _⟩; rfl
  rintro M ss r M' ⟨s0, s1, s2, s3, rfl, ⟨n1, n2, n3⟩, rfl, rfl, h⟩ F L σ H D hrt hnx hL o
  try dsimp only [cxOf]
  replace o : Ok K F L σ H [s0, s1, s2, s3, .un, .un, .un, .un, .un] [] := o
  refine q_asg (EvN.ev (evn_lst (ds := []) EvA.nil)) (fun σ H o => ?_) o
  replace o : Ok K F L σ H [s0, s1, s2, s3, .dat (.list []), .un, .un, .un, .un] [] := o
  have hargs : EvA K (tCons (tVar 1) (tCons (tVar 2) (tCons (tVar 3) tNil))) [s0, s1, s2, s3, .dat (.list []), .un, .un, .un, .un] [] [s1, s2, s3] [] := EvA.cons (ev_var rfl n1) (EvA.cons (ev_var rfl n2) (EvA.cons (ev_var rfl n3) EvA.nil))
  rcases h with ⟨sp, R, v, hc, hs, hR, rfl⟩ | ⟨sp, X, Dc, nm, hc, hs, hX, hE, rfl⟩ | ⟨sp, Y, m, hc, hs, hY, rfl⟩
  · refine s_drop (D := { nx := _, rt := _, bk := _, ct := _ }) (ev_callV hs hc rfl hargs rfl hR) (fun σ H o => ?_) o
    exact s_retMs (Mn := []) (M1 := []) (ev_varD rfl) (fun x hx => hx) hrt o
  · refine x_drop (D := { nx := _, rt := _, bk := _, ct := _ }) (fun Q => x_callV hs hc rfl hargs [] (List.nil_sublist _) hX (fun H1 o1 => ?_) o)
    refine ⟨false, hE.n, (fun z => by cases z), fun _ => ⟨true, hE.y, fun _ a ha => ⟨Dc, rfl, rfl, hE.xc, ?_⟩, fun z => by cases z⟩⟩
    obtain ⟨i, hi, row⟩ := hE.i
    have k0 := row 0 _ rfl; have k1 := row 1 _ rfl; have k2 := row 2 _ rfl; have k3 := row 3 _ rfl; have k4 := row 4 _ rfl; have k5 := row 5 _ rfl; have k6 := row 6 _ rfl; have k7 := row 7 _ rfl; have k8 := row 8 _ rfl
    have o2 : Ok K F L (σ.set 5 (some (.ref a))) H1 [s0, s1, s2, s3, .dat (.list []), .loc (.ref a), .un, .un, .un] [] := Ok.set (s := .loc (.ref a)) o1 rfl
    have one : ∀ {ρ : List Sl} {x : Str} {c : Addr} {b : Bool}, ρ[5]? = some (.loc (.ref a)) → PySem.W.kitOne K (.ref Dc) (.ref c) = some b → Ev K (tTup (tCons (tC (.str x)) (tCons (tCB (rIsE K Dc a) (tCons (tVar 5) (tCons (tC (.ref c)) tNil))) tNil))) ρ [] (.dat (.tuple [.str x, .bool b])) [] := fun h5 hk => ev_tupD (ds := [.str _, .bool _]) (ed_cons ev_str (ed_cons (ev_isE h5 hk) ed_nil)) (by simp)
    refine q_asg (EvN.ev (evn_lst (ds := [.tuple [.str "NoLength", .bool (decide (i = 0))], .tuple [.str "NoPlace", .bool (decide (i = 1))]]) (EvA.cons (one rfl k0) (EvA.cons (one rfl k1) EvA.nil)))) (fun σ H o => ?_) o2
    refine q_asg (EvN.ev (evn_cat (ev_varD rfl) (EvN.ev (evn_lst (ds := [.tuple [.str "NotNow", .bool (decide (i = 2))]]) (EvA.cons (one rfl k2) EvA.nil))) (by simp))) (fun σ H o => ?_) o
    refine q_asg (EvN.ev (evn_cat (ev_varD rfl) (EvN.ev (evn_lst (ds := [.tuple [.str "NoStands", .bool (decide (i = 3))], .tuple [.str "NoAnswers", .bool (decide (i = 4))]]) (EvA.cons (one rfl k3) (EvA.cons (one rfl k4) EvA.nil)))) (by simp))) (fun σ H o => ?_) o
    refine q_asg (EvN.ev (evn_cat (ev_varD rfl) (EvN.ev (evn_lst (ds := [.tuple [.str "NoStretch", .bool (decide (i = 5))], .tuple [.str "NoAnswer", .bool (decide (i = 6))]]) (EvA.cons (one rfl k5) (EvA.cons (one rfl k6) EvA.nil)))) (by simp))) (fun σ H o => ?_) o
    refine q_asg (EvN.ev (evn_cat (ev_varD rfl) (EvN.ev (evn_lst (ds := [.tuple [.str "Never", .bool (decide (i = 7))], .tuple [.str "NothingLeft", .bool (decide (i = 8))]]) (EvA.cons (one rfl k7) (EvA.cons (one rfl k8) EvA.nil)))) (by simp))) (fun σ H o => ?_) o
    replace o : Ok K F L σ H [s0, s1, s2, s3, .dat (.list []), .loc (.ref a), .dat (.list ((List.range 9).map fun k => .tuple [.str (nmL.getD k Str.empty), .bool (decide (i = k))])), .un, .un] [] := o
    refine s_asg (s := .dat (.list [.str nm, .bool true])) (M1 := []) (ev_isD (EvN.ev (evn_cat (ds := [.str nm]) (es := [.bool true]) (EvN.ev (evn_is (evn_lcF (n := 9) (item := fun k => .tuple [.str (nmL.getD k Str.empty), .bool (decide (i = k))]) (fun k => decide (i = k)) (fun k => .str (nmL.getD k Str.empty)) ?ei (by wtm_at "eg") (by simp) (fun k hk => ?et) (fun k hk => ?el) (by omega)) (given_one hi))) (EvN.ev (evn_lst (ds := [.bool true]) (EvA.cons (ev_isET rfl hE.v) EvA.nil))) (by simp))) rfl) (fun σ H o => ?_) o
    case ei =>
      have h := ei_list (K := K) (ρ := [s0, s1, s2, s3, .dat (.list []), .loc (.ref a), .dat (.list ((List.range 9).map fun k => .tuple [.str (nmL.getD k Str.empty), .bool (decide (i = k))])), .un, .un]) (M := []) (M1 := []) (te := tVar 6) (ev_varD rfl)
      rw [List.length_map, List.length_range] at h
      exact h.congr fun k hk => by rw [List.getD_eq_getElem?_getD, List.getElem?_map, List.getElem?_range hk]; rfl
    case et => exact et_test (ev_varD rfl)
    case el => exact ev_varD rfl
    have o3 := o.unset (i := 5)
    exact s_retMs (Mn := []) (M1 := []) (ev_varD rfl) (fun x hx => hx) hrt o3
  · refine x_drop (D := { nx := _, rt := _, bk := _, ct := _ }) (fun Q => xx_callV hs hc rfl hargs [] (List.nil_sublist _) hY (fun dd H1 nl nd hd hx o1 => ?_) o)
    refine ⟨true, hT.y, fun _ a ha => ⟨C_TooLong, dd, rfl, rfl, hT.xc, hT.xf, hT.no, ?_⟩, fun z => by cases z⟩
    have o2 : Ok K F L (σ.set 5 (some (.ref a))) H1 [s0, s1, s2, s3, .dat (.list []), .loc (.ref a), .un, .un, .un] [] := Ok.set (s := .loc (.ref a)) o1 rfl
    obtain ⟨v5, h5, e5⟩ := o2.get (i := 5) (s := .loc (.ref a)) rfl (fun z => nomatch z)
    have e5' : v5 = .ref a := e5
    subst e5'
    have fin := s_asg (K := K) (i := 4) (te := tLst (tCons (tC (.str "TooLong")) (tCons (tC (.int m)) (tCons (tC (.bl true)) tNil)))) (D := L2N.endsN { nx := tRet (tVar 4) D, rt := D.rt, bk := D.bk, ct := D.ct } 5) (EvN.ev (evn_lst (ds := [.str "TooLong", .int m, .bool true]) (EvA.cons ev_str (EvA.cons ev_int (EvA.cons ev_bl EvA.nil))))) (fun σ H o => ?_) o2
    · exact ⟨.ref a, h5, rfl, rfl, dd, _, .int m, rfl, hx, rfl, .ref a, h5, .ty "ValueError", .type "ValueError", true, _, rfl, fun u r => r, hx, hT.v, fin⟩
    · have o3 := o.unset (i := 5)
      exact s_retMs (Mn := []) (M1 := []) (ev_varD rfl) (fun x hx => hx) hrt o3
section
variable {P : Program} {w : World} {K : PySem.W.Frag} {mg : Str → Option Value} {base : Heap} {T S : Addr} {es : List Addr} {ce : CE} {s0 s1 s2 s3 : Sl} {as : List Sl} {d1 d2 d3 : PyData}
theorem HasX.can {j k : Nat} {x : Str} {ps : List Str} {sp : Sp} {f : Addr} (h : HasX P w K mg base j x ps sp) (hj : j ≤ k) (hm : mg x = some (.ref f)) : CanL P w K mg base k (.loc (.ref f)) sp := by
  obtain ⟨f', fd, G, g, kp, b⟩ := h
  rw [g] at hm
  cases hm
  exact .inr ⟨f, fd, ps, rfl, G.mono hj, kp, b⟩
theorem Has.can {j : Nat} {x : Str} {ps : List Str} {R : List PyData → PyData → Prop} {f : Addr} (h : Has P w K mg base j x ps (spP K R)) (hj : j ≤ 60) (hm : mg x = some (.ref f)) : CanL P w K mg base 60 (.loc (.ref f)) (spMs K (RP R)) := by
  obtain ⟨f', fd, G, g, k, b⟩ := h
  rw [g] at hm
  cases hm
  exact .inr ⟨f, fd, ps, rfl, (FnOk.up (FnOk.imp G fun vs H Q E z => spP_ms z)).mono hj, k, b⟩
theorem refE {X : Ms → List Sl → Addr → Prop} (hc : CanL P w K mg base 60 s0 (spE K X)) (hRef : ∀ x : Er, RefE K T S es (ce x) x.nm) (x : Er) (hX : X [] as (ce x)) : Ref15 P w K mg base T S es s0 as (.list [.str x.nm, .bool true]) := .inr (.inl ⟨_, X, ce x, x.nm, hc, fun _ _ _ _ h => h, hX, hRef x, rfl⟩)
theorem refX {Y : Ms → List Sl → Int → Prop} (hc : CanL P w K mg base 60 s0 (spX K T "most" Y)) (m : Int) (hY : Y [] as m) : Ref15 P w K mg base T S es s0 as (.list [.str "TooLong", .int m, .bool true]) := .inr (.inr ⟨_, Y, m, hc, fun _ _ _ _ h => h, hY, rfl⟩)
theorem refR {R : List PyData → PyData → Prop} {ds : List PyData} {v : PyData} (hc : CanL P w K mg base 60 s0 (spMs K (RP R))) (hR : R ds v) : Ref15 P w K mg base T S es s0 (ds.map Sl.dat) (.list []) := .inl ⟨_, RP R, v, hc, fun _ _ _ _ h => h, ⟨ds, rfl, hR, rfl⟩, rfl⟩
variable {ρ : List Sl} {M M1 : Ms} {ta tb tc td te : TE} {E : XK} {r : PyData}
theorem ev_refL (href : Ref15 P w K mg base T S es s0 [s1, s2, s3] r) (h0 : Ev K ta ρ M s0 M) (h1 : Ev K tb ρ M s1 M) (h2 : Ev K tc ρ M s2 M) (h3 : Ev K td ρ M s3 M) (n1 : s1 ≠ .un) (n2 : s2 ≠ .un) (n3 : s3 ≠ .un) :
    Ev K (tCall (spMs K (R_ref15 P w K mg base T S es)) [] E (tCons ta (tCons tb (tCons tc (tCons td tNil))))) ρ M (.dat r) M :=
  ev_callMs (M1 := M) (EvA.cons h0 (EvA.cons h1 (EvA.cons h2 (EvA.cons h3 EvA.nil)))) [] [] rfl (fun nd => Sw.same (List.nil_sublist _) nd) ⟨s0, s1, s2, s3, rfl, ⟨n1, n2, n3⟩, rfl, rfl, href⟩
theorem ev_refD (href : Ref15 P w K mg base T S es s0 [.dat d1, .dat d2, .dat d3] r) (h0 : Ev K ta ρ M s0 M) (h1 : Ev K tb ρ M (.dat d1) M) (h2 : Ev K tc ρ M (.dat d2) M) (h3 : Ev K td ρ M (.dat d3) M) :
    Ev K (tCall (spMs K (R_ref15 P w K mg base T S es)) [] E (tCons ta (tCons tb (tCons tc (tCons td tNil))))) ρ M (.dat r) M := ev_refL href h0 h1 h2 h3 (fun z => nomatch z) (fun z => nomatch z) (fun z => nomatch z)
theorem sh_two {x : Str} (h : PyData.strOk x = true) : Sh 1 (.list [.str x, .bool true]) := sh_list fun d hd => by
  rcases List.mem_cons.mp hd with z | z
  · rw [z]; exact sh_str h
  · rw [List.mem_singleton.mp z]; exact sh_bool
theorem eqv_two (x : Str) : PyData.eqv (.list [.str x, .bool true]) (.list [.str x, .bool true]) = true := by
  show (PyData.eqv (.str x) (.str x) && (PyData.eqv (.bool true) (.bool true) && true)) = true
  rw [eqv_str, decide_eq_true rfl]; rfl
theorem evn_two {x : Str} : EvN K (tLst (tCons (tC (.str x)) (tCons (tC (.bl true)) tNil))) ρ M [.str x, .bool true] M := evn_lst (ds := [.str x, .bool true]) (EvA.cons ev_str (EvA.cons ev_bl EvA.nil))
theorem et_ref {x : Str} (hx : PyData.strOk x = true) (h : Ev K te ρ M (.dat (.list [.str x, .bool true])) M) : EvT K (tTest (tOp (rNeD K) te (tLst (tCons (tC (.str x)) (tCons (tC (.bl true)) tNil))))) ρ M false M :=
  et_is (et_test (ev_neD h (EvN.ev evn_two) ((sh_two hx).shaped (by decide)) ((sh_two hx).shaped (by decide)))) (by rw [eqv_two]; rfl)
theorem ev_refEq {x : Str} (hx : PyData.strOk x = true) (h : Ev K te ρ M (.dat (.list [.str x, .bool true])) M) : Ev K (tOp (rEqD K) te (tLst (tCons (tC (.str x)) (tCons (tC (.bl true)) tNil)))) ρ M (.dat (.bool true)) M :=
  ev_isD (ev_eqD h (EvN.ev evn_two) ((sh_two hx).shaped (by decide)) ((sh_two hx).shaped (by decide))) (by rw [eqv_two])
theorem et_refT (h : Ev K te ρ M (.dat (.list [.str "TooLong", .int 16, .bool true])) M) : EvT K (tTest (tOp (rNeD K) te (tLst (tCons (tC (.str "TooLong")) (tCons (tC (.int 16)) (tCons (tC (.bl true)) tNil)))))) ρ M false M :=
  et_is (et_test (ev_neD h (EvN.ev (evn_lst (ds := [.str "TooLong", .int 16, .bool true]) (EvA.cons ev_str (EvA.cons ev_int (EvA.cons ev_bl EvA.nil))))) (by decide +kernel) (by decide +kernel))) (by decide +kernel)
theorem et_refN (h : Ev K te ρ M (.dat (.list [])) M) : EvT K (tTest (tOp (rNeD K) te (tLst tNil))) ρ M false M :=
  et_is (et_test (ev_neD h (EvN.ev (evn_lst (ds := []) EvA.nil)) (by decide +kernel) (by decide +kernel))) (by decide +kernel)
end
theorem erOk : ∀ x : Er, PyData.strOk x.nm = true := fun x => by cases x <;> decide +kernel
theorem getD_in {l : List PyData} {i : Nat} (h : i < l.length) : l.getD i .none ∈ l := by rw [List.getD_eq_getElem?_getD, List.getElem?_eq_getElem h]; exact List.getElem_mem h
def X_na (ce : CE) (M : Ms) (ss : List Sl) (C : Addr) : Prop := XD ce X_need_askedA M ss C ∨ XD ce X_need_askedB M ss C ∨ XD ce X_need_askedC M ss C ∨ XD ce X_need_askedD M ss C
def X_l3 (ce : CE) (A B D : List PyData → Er → Prop) (M : Ms) (ss : List Sl) (C : Addr) : Prop := XD ce A M ss C ∨ XD ce B M ss C ∨ XD ce D M ss C

abbrev s_law_things_refused : Stmt := topS 60
theorem sc_law_things_refused : FnScope ["length", "none", "bad", "odd"] ["length", "none", "bad"] (defScope s_law_things_refused) := ⟨rfl, rfl, rfl, by decide +kernel, rfl, by decide +kernel, by decide +kernel⟩
def R_law_things_refused (ds : List PyData) (r : PyData) : Prop := ∃ (n : Int) (d b : PyData), ds = [.int n, d, b] ∧ (1 ≤ n ∧ n ≤ 60) ∧ within d 1 60 = false ∧ badSt n b = true ∧ r = .bool true
theorem ok_law_things_refused (T0 : Raw K mg "_law_things_refused" "_law_things_refused" s_law_things_refused) (B : Bl mg)   {T S : Addr} {es : List Addr} {ce : CE} (hRef : ∀ x : Er, RefE K T S es (ce x) x.nm) {d_answers_to : Addr} (gd_answers_to : mg "answers_to" = some (.ref d_answers_to)) (hA : CanL P w K mg base 60 (.loc (.ref d_answers_to)) (spE K (X_l3 ce X_answers_toA X_answers_toB X_answers_toC)))
    (h_law_refused : Has P w K mg base 61 "_law_refused" ["call", "one", "two", "three"] (spMs K (R_ref15 P w K mg base T S es))) : Has P w K mg base 62 "_law_things_refused" ["length", "none", "bad"] (spP K R_law_things_refused) := by
  obtain ⟨f, fd, Fn, hg⟩ := T0
  obtain ⟨_, _, G_law_refused, g_law_refused, k_law_refused, b_law_refused⟩ := h_law_refused
  refine ⟨f, fd, okP Fn sc_law_things_refused ?len (fun cdv A outer s H E hr => ⟨_, (pss_cons (ps_for PassesOwn.never rfl (wi_tup (K' := K) rfl (pe_tup (pa_cons pe_int (pa_cons (pe_op op_add (pv 0) pe_int) (pa_cons pe_bl (pa_cons pe_non (pa_cons pe_str pa_nil))))))) (pg_name (i := 3) sc_law_things_refused.nd rfl (by first | exact .inl rfl | exact .inr rfl))
      (pss_one (ps_if (pt_cmpR (w_neD (K' := K) rfl hr.units) (pe_call G_law_refused (hr.mono (by first | decide | omega)) (by rfl) g_law_refused k_law_refused b_law_refused .nil pass0 (pa_cons (pe_glob (by rfl) gd_answers_to (show RelV (.ref d_answers_to) _ from rfl)) (pa_cons (pv 0) (pa_cons (pv 3) (pa_cons pe_non pa_nil))))) (pe_lst (pa_cons pe_str (pa_cons pe_bl pa_nil))) (nomark _)) (pss_one (ps_ret pe_bl)) pss_nil)))
      (pss_cons (ps_if (pt_cmpR (w_neD (K' := K) rfl hr.units) (pe_call G_law_refused (hr.mono (by first | decide | omega)) (by rfl) g_law_refused k_law_refused b_law_refused .nil pass0 (pa_cons (pe_glob (by rfl) gd_answers_to (show RelV (.ref d_answers_to) _ from rfl)) (pa_cons (pv 0) (pa_cons pe_int (pa_cons (pv 2) pa_nil))))) (pe_lst (pa_cons pe_str (pa_cons pe_bl pa_nil))) (nomark _)) (pss_one (ps_ret pe_bl)) pss_nil)
      (pss_one (ps_ret (pe_cmpR (w_eqD (K' := K) rfl hr.units) (pe_call G_law_refused (hr.mono (by first | decide | omega)) (by rfl) g_law_refused k_law_refused b_law_refused .nil pass0 (pa_cons (pe_glob (by rfl) gd_answers_to (show RelV (.ref d_answers_to) _ from rfl)) (pa_cons (pv 1) (pa_cons pe_int (pa_cons pe_non pa_nil))))) (pe_lst (pa_cons pe_str (pa_cons pe_bl pa_nil))) (nomark _)))))), ?_⟩), hg, Fn.kp, Fn.binds fun _ _ _ _ _ _ us hl => match us, hl with | [_, _, _], _ => rfl⟩
  case len =>
    rintro ds r ⟨n, d, b, rfl, _⟩; rfl
  rintro ds r ⟨n, d, b, rfl, hn, hd, hb, rfl⟩ F L σ H D hrt hnx o
  try dsimp only [cxOf]
  replace o : Ok K F L σ H [.dat (.int n), .dat d, .dat b, .un] [] := o
  have hodd : ∀ x ∈ [PyData.int 0, .int (n + 1), .bool true, .none, .str "1"], within x 1 n = false := fun x hx => by
    simp only [List.mem_cons, List.not_mem_nil, or_false] at hx
    rcases hx with z | z | z | z | z <;> rw [z] <;> (simp [within]; try omega)
  refine q_for0 (n := 5) (item := fun i => [PyData.int 0, .int (n + 1), .bool true, .none, .str "1"].getD i .none) (fun i ρ M => ∃ s3 : Sl, ρ = [.dat (.int n), .dat d, .dat b, s3] ∧ M = [])
    (ei_tup (ds := [.int 0, .int (n + 1), .bool true, .none, .str "1"]) (ev_tupD (ed_cons ev_int (ed_cons (ev_add (ev_varD rfl) ev_int) (ed_cons ev_bl (ed_cons ev_non (ed_cons ev_str ed_nil))))) (by simp))) (by wtm_at "eg") ⟨.un, rfl, rfl⟩ (fun F' sF i hi ρ M hJ σ H o => ?_) (fun ρ M hJ σ H o => ?_) o
  · obtain ⟨s3, rfl, rfl⟩ := hJ
    have hx := hodd _ (getD_in (l := [PyData.int 0, .int (n + 1), .bool true, .none, .str "1"]) hi)
    generalize [PyData.int 0, .int (n + 1), .bool true, .none, .str "1"].getD i .none = x at *
    replace o : Ok K F' L σ H [.dat (.int n), .dat d, .dat b, .dat x] [] := o
    refine s_ifF0 (et_ref (erOk .place) (ev_refD (refE hA hRef .place (.inr (.inl ⟨[.int n, x, .none], .place, rfl, rfl, ⟨n, x, .none, rfl, ⟨hn, hx⟩, rfl⟩, rfl⟩))) ev_ref (ev_varD rfl) (ev_varD rfl) ev_non)) (fun H o => ⟨_, _, ⟨_, rfl, rfl⟩, o⟩) o
  · obtain ⟨s3, rfl, rfl⟩ := hJ
    refine q_ifF0 (et_ref (erOk .stands) (ev_refD (refE hA hRef .stands (.inr (.inr ⟨[.int n, .int 1, b], .stands, rfl, rfl, ⟨n, 1, b, rfl, ⟨hn, ⟨by omega, hn.1⟩, hb⟩, rfl⟩, rfl⟩))) ev_ref (ev_varD rfl) ev_int (ev_varD rfl))) (fun H o => ?_) o
    exact s_retP0 (ev_refEq (erOk .length) (ev_refD (refE hA hRef .length (.inl ⟨[d, .int 0, .none], .length, rfl, rfl, ⟨d, .int 0, .none, rfl, hd, rfl⟩, rfl⟩)) ev_ref (ev_varD rfl) ev_int ev_non)) hrt o
/-! the lambdas, taken out of the defs' texts -/
def forB : Stmt → List Stmt
  | .For _ _ b _ _ => b
  | _ => []
def ifT : Stmt → Expr
  | .If t _ _ _ => t
  | _ => .Name "x" ⟨0, 0, 0, 0⟩
def retV : Stmt → Expr
  | .Return (some e) _ => e
  | _ => .Name "x" ⟨0, 0, 0, 0⟩
def cmpL : Expr → Expr
  | .Compare l _ _ _ => l
  | e => e
def arg0 : Expr → Expr
  | .Call _ as _ _ => as.getD 0 (.Name "x" ⟨0, 0, 0, 0⟩)
  | _ => .Name "x" ⟨0, 0, 0, 0⟩
def lamB : Expr → Expr
  | .Lambda _ b _ _ => b
  | e => e
def lamS (d : Scope) : Expr → Scope
  | .Lambda _ _ s _ => s
  | _ => d
def lamP (d : Arguments) : Expr → Arguments
  | .Lambda p _ _ _ => p
  | _ => d
abbrev lamQS : Str := (("_law_short_refused" : Str) ++ ".<locals>.") ++ "<lambda>"
abbrev nmS : Nat → Nat → Str := fun _ _ => lamQS
def X_sa (ce : CE) (M : Ms) (ss : List Sl) (C : Addr) : Prop := ∃ (d : PyData) (s2 s3 : Sl), M = [] ∧ ss = [.dat d, s2, s3] ∧ within d 1 60 = false ∧ C = ce .length
def Y_sa (M : Ms) (ss : List Sl) (m : Int) : Prop := ∃ (n : Int) (s2 s3 : Sl), M = [] ∧ ss = [.dat (.int n), s2, s3] ∧ m = 16 ∧ 16 < n ∧ n ≤ 60

abbrev s_law_short_refused : Stmt := topS 59
theorem sc_law_short_refused : FnScope ["length", "none", "door", "short", "stretch", "odd"] ["length", "none"] (defScope s_law_short_refused) := ⟨rfl, rfl, rfl, by decide +kernel, rfl, by decide +kernel, by decide +kernel⟩
def short_lam5 : Expr := arg0 (cmpL (ifT ((defBody s_law_short_refused).getD 1 (.Pass ⟨0, 0, 0, 0⟩))))
def short_lam6 : Expr := arg0 (cmpL (retV ((defBody s_law_short_refused).getD 2 (.Pass ⟨0, 0, 0, 0⟩))))
def mk_s5 : Addr → NdefX.NF := fun c' => ⟨"<lambda>", lamQS, lamP (defArgs s_law_short_refused) short_lam5, [], lamS (defScope s_law_short_refused) short_lam5, [], c'⟩
theorem sc_s5 : NdefX.NScope ["a", "b", "c"] ["a", "b", "c"] [] (lamS (defScope s_law_short_refused) short_lam5) := NdefX.nscope_by (by decide +kernel)
theorem hb_s5 (c' : Addr) (pm ctv : Value) (us : List Value) (hl : us.length = ["a", "b", "c"].length) : bindArgs (PySem.W.kla_fn (mk_s5 c').name (mk_s5 c').qual (mk_s5 c').params (lamB short_lam5) (mk_s5 c').scope (mk_s5 c').cl pm (.ref (mk_s5 c').c) ctv) ⟨us, []⟩ = pure ((["a", "b", "c"] : List Str).zip us) := match us, hl with
  | [_, _, _], _ => rfl
def mk_s6 : Addr → NdefX.NF := fun c' => ⟨"<lambda>", lamQS, lamP (defArgs s_law_short_refused) short_lam6, [], lamS (defScope s_law_short_refused) short_lam6, [], c'⟩
theorem sc_s6 : NdefX.NScope ["a", "b", "c"] ["a", "b", "c"] [] (lamS (defScope s_law_short_refused) short_lam6) := NdefX.nscope_by (by decide +kernel)
theorem hb_s6 (c' : Addr) (pm ctv : Value) (us : List Value) (hl : us.length = ["a", "b", "c"].length) : bindArgs (PySem.W.kla_fn (mk_s6 c').name (mk_s6 c').qual (mk_s6 c').params (lamB short_lam6) (mk_s6 c').scope (mk_s6 c').cl pm (.ref (mk_s6 c').c) ctv) ⟨us, []⟩ = pure ((["a", "b", "c"] : List Str).zip us) := match us, hl with
  | [_, _, _], _ => rfl
theorem can_s5 (B : Bl mg) {C_TooLong : Addr} (hXX_stands_at_all : HasX P w K mg base 26 "stands_at_all" ["length"] (spX K C_TooLong "most" Y_stands_at_all)) : CanL P w K mg base 60 (.pr (φL mk_s5 (lamB short_lam5))) (spX K C_TooLong "most" Y_sa) := by
  obtain ⟨_, _, GX, gX, kX, bX⟩ := hXX_stands_at_all
  refine .inl ⟨mk_s5, lamB short_lam5, ["a", "b", "c"], rfl, fun f c' => lokX (k := 59) sc_s5 rfl (hb_s5 c') ?len (fun A outer s H E hr => ⟨_, (pe_call GX (hr.mono (by first | decide | omega)) (by rfl) gX kX bX .nil passN (pa_cons (pv 0) pa_nil)), ?_⟩)⟩
  case len =>
    rintro M ss m ⟨n, s2, s3, rfl, rfl, _⟩; rfl
  rintro M ss m ⟨n, s2, s3, rfl, rfl, rfl, h1, h2⟩ F L σ H Q hE o
  exact x_callX (EvA.cons (ev_varD (d := .int n) rfl) EvA.nil) [] (List.nil_sublist _) ⟨n, rfl, rfl, rfl, h1, h2⟩ (fun d H1 nl nd hd hx o1 => hE d H1 nd hd hx o1) o
theorem can_s6 (B : Bl mg) {ce : CE} (hX_stands_at_all : HasX P w K mg base 26 "stands_at_all" ["length"] (spE K (XD ce X_stands_at_allA))) : CanL P w K mg base 60 (.pr (φL mk_s6 (lamB short_lam6))) (spE K (X_sa ce)) := by
  obtain ⟨_, _, GX, gX, kX, bX⟩ := hX_stands_at_all
  refine .inl ⟨mk_s6, lamB short_lam6, ["a", "b", "c"], rfl, fun f c' => lokE (k := 59) sc_s6 rfl (hb_s6 c') ?len (fun A outer s H E hr => ⟨_, (pe_call GX (hr.mono (by first | decide | omega)) (by rfl) gX kX bX .nil passN (pa_cons (pv 0) pa_nil)), ?_⟩)⟩
  case len =>
    rintro M ss C' ⟨d, s2, s3, rfl, rfl, _⟩; rfl
  rintro M ss C' ⟨d, s2, s3, rfl, rfl, hw, rfl⟩ F L σ H Q hE o
  exact x_call (EvA.cons (ev_varD (d := d) rfl) EvA.nil) [] (List.nil_sublist _) ⟨[d], .length, rfl, rfl, ⟨d, rfl, hw, rfl⟩, rfl⟩ hE o
def R_law_short (PS : Addr) (M : Ms) (ss : List Sl) (r : PyData) (M' : Ms) : Prop := ∃ (n : Int) (d : PyData), M = [(PS, .tab nmS)] ∧ M' = [(PS, .tab nmS)] ∧ ss = [.dat (.int n), .dat d] ∧ (1 ≤ n ∧ n ≤ 60) ∧ within d 1 60 = false ∧ r = .bool true
set_option maxHeartbeats 16000000 in
theorem ok_law_short_refused {f cS PS : Addr} {kV doc pm ct oc : Value} {an od : Option Addr} {osl : Array (Option Value)} (lk : K.lookup f = some ⟨oc, od, .func (PySem.W.fnOf "_law_short_refused" "_law_short_refused" (defArgs s_law_short_refused) (defBody s_law_short_refused) (defScope s_law_short_refused) .none kV doc pm an (.ref cS) ct), osl⟩) (hcd : PySem.W.codeIn K (.ref cS) "_law_short_refused" = true) (hk : PySem.W.keepIn K (.ref f) = true) (hgS : mg "_law_short_refused" = some (.ref f)) (B : Bl mg) (TB : LamX.TabB base mg cS PS)  
    {C_TooLong S : Addr} {es : List Addr} {ce : CE} (hRef : ∀ x : Er, RefE K C_TooLong S es (ce x) x.nm) {d_stands_from d_steps_from : Addr} (gd_stands_from : mg "stands_from" = some (.ref d_stands_from)) (gd_steps_from : mg "steps_from" = some (.ref d_steps_from))
    (hDE : ∀ f ∈ [d_stands_from, d_steps_from], CanL P w K mg base 60 (.loc (.ref f)) (spE K (X_na ce))) (hDX : ∀ f ∈ [d_stands_from, d_steps_from], CanL P w K mg base 60 (.loc (.ref f)) (spX K C_TooLong "most" Y_need_asked))
    (hDR : ∀ f ∈ [d_stands_from, d_steps_from], ∀ (n : Nat) (lo hi x : Int), n ≤ 16 → 1 ≤ lo → lo ≤ hi → hi ≤ n → 1 ≤ x → x ≤ n → Ref15 P w K mg base C_TooLong S es (.loc (.ref f)) [.dat (.int n), .dat (.tuple [.int lo, .int hi]), .dat (.int x)] (.list []))
    (hX_stands_at_all : HasX P w K mg base 26 "stands_at_all" ["length"] (spE K (XD ce X_stands_at_allA))) (hXX_stands_at_all : HasX P w K mg base 26 "stands_at_all" ["length"] (spX K C_TooLong "most" Y_stands_at_all))
    (h_law_refused : Has P w K mg base 61 "_law_refused" ["call", "one", "two", "three"] (spMs K (R_ref15 P w K mg base C_TooLong S es))) : Has P w K mg base 62 "_law_short_refused" ["length", "none"] (spMs K (R_law_short PS)) := by
  obtain ⟨_, _, G_law_refused, g_law_refused, k_law_refused, b_law_refused⟩ := h_law_refused
  have Fn := fun_mk (st := s_law_short_refused) lk hcd hk
  refine ⟨f, _, okMsC (k := 61) lk hcd sc_law_short_refused ?len (fun A outer s H E hr => ⟨_, (pss_cons (ps_for PassesOwn.never rfl (wi_tup (K' := K) rfl (pe_tup (pa_cons (pe_glob (by rfl) gd_stands_from (show RelV (.ref d_stands_from) _ from rfl)) (pa_cons (pe_glob (by rfl) gd_steps_from (show RelV (.ref d_steps_from) _ from rfl)) pa_nil)))) (pg_name (i := 2) sc_law_short_refused.nd rfl (by first | exact .inl rfl | exact .inr rfl))
      (pss_cons (ps_if (pt_cmpR (w_neD (K' := K) rfl hr.units) (pe_call G_law_refused (hr.mono (by first | decide | omega)) (by rfl) g_law_refused k_law_refused b_law_refused .nil pass0 (pa_cons (pv 2) (pa_cons (pv 1) (pa_cons pe_non (pa_cons pe_non pa_nil))))) (pe_lst (pa_cons pe_str (pa_cons pe_bl pa_nil))) (nomark _)) (pss_one (ps_ret pe_bl)) pss_nil)
      (pss_cons (ps_if (pt_cmpR (w_neD (K' := K) rfl hr.units) (pe_call G_law_refused (hr.mono (by first | decide | omega)) (by rfl) g_law_refused k_law_refused b_law_refused .nil pass0 (pa_cons (pv 2) (pa_cons pe_int (pa_cons pe_non (pa_cons pe_non pa_nil))))) (pe_lst (pa_cons pe_str (pa_cons pe_int (pa_cons pe_bl pa_nil)))) (nomark _)) (pss_one (ps_ret pe_bl)) pss_nil)
      (pss_cons (ps_set (i := 3) sc_law_short_refused.nd rfl (by first | exact .inl rfl | exact .inr rfl) (pe_op op_add pe_int (pe_op op_mod (pv 0) pe_int)))
      (pss_cons (ps_for PassesOwn.never rfl (wi_tup (K' := K) rfl (pe_tup (pa_cons pe_non (pa_cons (pe_lst (pa_cons pe_int (pa_cons pe_int pa_nil))) (pa_cons (pe_tup (pa_cons pe_int pa_nil)) (pa_cons (pe_tup (pa_cons pe_int (pa_cons pe_int pa_nil))) (pa_cons (pe_tup (pa_cons pe_int (pa_cons (pe_op op_add (pv 3) pe_int) pa_nil))) (pa_cons (pe_tup (pa_cons pe_int (pa_cons pe_int pa_nil))) (pa_cons (pe_tup (pa_cons pe_bl (pa_cons pe_int pa_nil))) (pa_cons (pe_tup (pa_cons pe_int (pa_cons pe_int (pa_cons pe_int pa_nil)))) (pa_cons pe_int pa_nil))))))))))) (pg_name (i := 4) sc_law_short_refused.nd rfl (by first | exact .inl rfl | exact .inr rfl))
      (pss_one (ps_if (pt_cmpR (w_neD (K' := K) rfl hr.units) (pe_call G_law_refused (hr.mono (by first | decide | omega)) (by rfl) g_law_refused k_law_refused b_law_refused .nil pass0 (pa_cons (pv 2) (pa_cons (pv 3) (pa_cons (pv 4) (pa_cons pe_non pa_nil))))) (pe_lst (pa_cons pe_str (pa_cons pe_bl pa_nil))) (nomark _)) (pss_one (ps_ret pe_bl)) pss_nil)))
      (pss_cons (ps_for PassesOwn.never rfl (wi_tup (K' := K) rfl (pe_tup (pa_cons pe_int (pa_cons (pe_op op_add (pv 3) pe_int) (pa_cons pe_bl (pa_cons pe_non (pa_cons pe_str pa_nil))))))) (pg_name (i := 5) sc_law_short_refused.nd rfl (by first | exact .inl rfl | exact .inr rfl))
      (pss_one (ps_if (pt_cmpR (w_neD (K' := K) rfl hr.units) (pe_call G_law_refused (hr.mono (by first | decide | omega)) (by rfl) g_law_refused k_law_refused b_law_refused .nil pass0 (pa_cons (pv 2) (pa_cons (pv 3) (pa_cons (pe_tup (pa_cons pe_int (pa_cons (pv 3) pa_nil))) (pa_cons (pv 5) pa_nil))))) (pe_lst (pa_cons pe_str (pa_cons pe_bl pa_nil))) (nomark _)) (pss_one (ps_ret pe_bl)) pss_nil)))
      (pss_one (ps_if (pt_cmpR (w_neD (K' := K) rfl hr.units) (pe_call G_law_refused (hr.mono (by first | decide | omega)) (by rfl) g_law_refused k_law_refused b_law_refused .nil pass0 (pa_cons (pv 2) (pa_cons (pv 3) (pa_cons (pe_tup (pa_cons pe_int (pa_cons (pv 3) pa_nil))) (pa_cons (pv 3) pa_nil))))) (pe_lst pa_nil) (nomark _)) (pss_one (ps_ret pe_bl)) pss_nil))))))))
      (pss_cons (ps_if (pt_cmpR (w_neD (K' := K) rfl hr.units) (pe_call G_law_refused (hr.mono (by first | decide | omega)) (by rfl) g_law_refused k_law_refused b_law_refused .nil pass0 (pa_cons (pe_lam (nm := nmS) TB rfl rfl rfl (by decide +kernel)) (pa_cons pe_int (pa_cons pe_int (pa_cons pe_int pa_nil))))) (pe_lst (pa_cons pe_str (pa_cons pe_int (pa_cons pe_bl pa_nil)))) (nomark _)) (pss_one (ps_ret pe_bl)) pss_nil)
      (pss_one (ps_ret (pe_cmpR (w_eqD (K' := K) rfl hr.units) (pe_call G_law_refused (hr.mono (by first | decide | omega)) (by rfl) g_law_refused k_law_refused b_law_refused .nil pass0 (pa_cons (pe_lam (nm := nmS) TB rfl rfl rfl (by decide +kernel)) (pa_cons (pv 1) (pa_cons pe_int (pa_cons pe_int pa_nil))))) (pe_lst (pa_cons pe_str (pa_cons pe_bl pa_nil))) (nomark _)))))), ?_⟩), hgS, hk, Fn.binds fun _ _ _ _ _ _ us hl => match us, hl with | [_, _], _ => rfl⟩
  case len =>
    rintro M ss r M' ⟨n, d, rfl, rfl, rfl, _⟩; rfl
  rintro M ss r M' ⟨n, d, rfl, rfl, rfl, hn, hd, rfl⟩ F L σ H D hrt hL o
  try dsimp only [cxOf]
  replace o : Ok K F L σ H [.dat (.int n), .dat d, .un, .un, .un, .un] [(PS, .tab nmS)] := o
  obtain ⟨m, hm, hm1, hm6⟩ : ∃ m : Nat, (1 + n % 6 : Int) = m ∧ 1 ≤ m ∧ m ≤ 6 := ⟨(1 + n % 6).toNat, by omega, by omega, by omega⟩
  have hstr : ∀ x ∈ [PyData.none, .list [.int 1, .int 1], .tuple [.int 1], .tuple [.int 0, .int 1], .tuple [.int 1, .int (m + 1)], .tuple [.int 2, .int 1], .tuple [.bool true, .int 1], .tuple [.int 1, .int 1, .int 1], .int 1], X_na ce [] [.dat (.int m), .dat x, .dat .none] (ce .stretch) := fun x hx => by
    have bad : badStr m x = true → X_na ce [] [.dat (.int m), .dat x, .dat .none] (ce .stretch) := fun h => .inr (.inl ⟨[.int m, x, .none], .stretch, rfl, rfl, ⟨m, x, .none, rfl, ⟨⟨by omega, by omega⟩, h⟩, rfl⟩, rfl⟩)
    simp only [List.mem_cons, List.not_mem_nil, or_false] at hx
    rcases hx with z | z | z | z | z | z | z | z | z <;> subst z
    · exact bad rfl
    · exact bad rfl
    · exact bad rfl
    · exact bad (by simp [badStr, within])
    · exact bad (by simp [badStr, within]; omega)
    · by_cases h2 : 2 ≤ m
      · exact .inr (.inr (.inl ⟨[.int m, .tuple [.int 2, .int 1], .none], .stretch, rfl, rfl, ⟨m, 2, 1, .none, rfl, ⟨by omega, by omega, by omega, by omega⟩, rfl⟩, rfl⟩))
      · exact bad (by simp [badStr, within]; omega)
    · exact bad (by simp [badStr, within])
    · exact bad rfl
    · exact bad rfl
  have hodd : ∀ x ∈ [PyData.int 0, .int (m + 1), .bool true, .none, .str "1"], within x 1 m = false := fun x hx => by
    simp only [List.mem_cons, List.not_mem_nil, or_false] at hx
    rcases hx with z | z | z | z | z <;> rw [z] <;> (simp [within]; try omega)
  refine q_forF (fs := [d_stands_from, d_steps_from]) (fun i ρ M => ∃ s2 s3 s4 s5 : Sl, ρ = [.dat (.int n), .dat d, s2, s3, s4, s5] ∧ M = [(PS, .tab nmS)]) (EvA.cons ev_ref (EvA.cons ev_ref EvA.nil)) (by simp) ⟨.un, .un, .un, .un, rfl, rfl⟩ (fun F2 sF i f hf ρ M hJ σ H o => ?_) (fun ρ M hJ σ H o => ?_) o
  · obtain ⟨s2, s3, s4, s5, rfl, rfl⟩ := hJ
    have hfm : f ∈ [d_stands_from, d_steps_from] := List.mem_of_getElem? hf
    replace o : Ok K F2 L σ H [.dat (.int n), .dat d, .loc (.ref f), s3, s4, s5] [(PS, .tab nmS)] := o
    refine q_ifF0 (et_ref (erOk .length) (ev_refD (refE (hDE f hfm) hRef .length (.inl ⟨[d, .none, .none], .length, rfl, rfl, ⟨d, .none, .none, rfl, hd, rfl⟩, rfl⟩)) (ev_varL rfl) (ev_varD rfl) ev_non ev_non)) (fun H o => ?_) o
    refine q_ifF0 (et_refT (ev_refD (refX (hDX f hfm) 16 ⟨17, .none, .none, rfl, rfl, rfl, by omega, by omega⟩) (ev_varL rfl) ev_int ev_non ev_non)) (fun H o => ?_) o
    refine q_asg0 (s := .dat (.int m)) (ev_isD (ev_add ev_int (ev_mod (ev_varD rfl) ev_int (by decide))) (by rw [hm])) (fun σ H o => ?_) o
    replace o : Ok K F2 L σ H [.dat (.int n), .dat d, .loc (.ref f), .dat (.int m), s4, s5] [(PS, .tab nmS)] := o
    refine q_for0 (n := 9) (item := fun i => [PyData.none, .list [.int 1, .int 1], .tuple [.int 1], .tuple [.int 0, .int 1], .tuple [.int 1, .int (m + 1)], .tuple [.int 2, .int 1], .tuple [.bool true, .int 1], .tuple [.int 1, .int 1, .int 1], .int 1].getD i .none) (fun i ρ M => ∃ s4 : Sl, ρ = [.dat (.int n), .dat d, .loc (.ref f), .dat (.int m), s4, s5] ∧ M = [(PS, .tab nmS)])
      (ei_tup (ds := [PyData.none, .list [.int 1, .int 1], .tuple [.int 1], .tuple [.int 0, .int 1], .tuple [.int 1, .int (m + 1)], .tuple [.int 2, .int 1], .tuple [.bool true, .int 1], .tuple [.int 1, .int 1, .int 1], .int 1]) (ev_tupD (ed_cons ev_non (ed_cons (EvN.ev (evn_lst (ds := [.int 1, .int 1]) (EvA.cons ev_int (EvA.cons ev_int EvA.nil)))) (ed_cons (ev_tupD (ds := [.int 1]) (ed_cons ev_int ed_nil) (by simp)) (ed_cons (ev_tupD (ds := [.int 0, .int 1]) (ed_cons ev_int (ed_cons ev_int ed_nil)) (by simp)) (ed_cons (ev_tupD (ds := [.int 1, .int (m + 1)]) (ed_cons ev_int (ed_cons (ev_add (ev_varD rfl) ev_int) ed_nil)) (by simp)) (ed_cons (ev_tupD (ds := [.int 2, .int 1]) (ed_cons ev_int (ed_cons ev_int ed_nil)) (by simp)) (ed_cons (ev_tupD (ds := [.bool true, .int 1]) (ed_cons ev_bl (ed_cons ev_int ed_nil)) (by simp)) (ed_cons (ev_tupD (ds := [.int 1, .int 1, .int 1]) (ed_cons ev_int (ed_cons ev_int (ed_cons ev_int ed_nil))) (by simp)) (ed_cons ev_int ed_nil))))))))) (by simp))) (by wtm_at "eg") ⟨s4, rfl, rfl⟩ (fun F3 sF3 i hi ρ M hJ σ H o => ?_) (fun ρ M hJ σ H o => ?_) o
    · obtain ⟨s4, rfl, rfl⟩ := hJ
      have hx := hstr _ (getD_in (l := [PyData.none, .list [.int 1, .int 1], .tuple [.int 1], .tuple [.int 0, .int 1], .tuple [.int 1, .int (m + 1)], .tuple [.int 2, .int 1], .tuple [.bool true, .int 1], .tuple [.int 1, .int 1, .int 1], .int 1]) hi)
      generalize [PyData.none, .list [.int 1, .int 1], .tuple [.int 1], .tuple [.int 0, .int 1], .tuple [.int 1, .int (m + 1)], .tuple [.int 2, .int 1], .tuple [.bool true, .int 1], .tuple [.int 1, .int 1, .int 1], .int 1].getD i .none = x at *
      replace o : Ok K F3 L σ H [.dat (.int n), .dat d, .loc (.ref f), .dat (.int m), .dat x, s5] [(PS, .tab nmS)] := o
      exact s_ifF0 (et_ref (erOk .stretch) (ev_refD (refE (hDE f hfm) hRef .stretch hx) (ev_varL rfl) (ev_varD rfl) (ev_varD rfl) ev_non)) (fun H o => ⟨_, _, ⟨_, rfl, rfl⟩, o⟩) o
    · obtain ⟨s4, rfl, rfl⟩ := hJ
      have h1m : ∀ {ρ : List Sl} {M : Ms}, ρ[3]? = some (.dat (.int m)) → Ev K (tTup (tCons (tC (.int 1)) (tCons (tVar 3) tNil))) ρ M (.dat (.tuple [.int 1, .int m])) M := fun h => ev_tupD (ds := [.int 1, .int m]) (ed_cons ev_int (ed_cons (ev_varD h) ed_nil)) (by simp)
      refine q_for0 (n := 5) (item := fun i => [PyData.int 0, .int (m + 1), .bool true, .none, .str "1"].getD i .none) (fun i ρ M => ∃ s5 : Sl, ρ = [.dat (.int n), .dat d, .loc (.ref f), .dat (.int m), s4, s5] ∧ M = [(PS, .tab nmS)])
        (ei_tup (ds := [PyData.int 0, .int (m + 1), .bool true, .none, .str "1"]) (ev_tupD (ed_cons ev_int (ed_cons (ev_add (ev_varD rfl) ev_int) (ed_cons ev_bl (ed_cons ev_non (ed_cons ev_str ed_nil))))) (by simp))) (by wtm_at "eg") ⟨s5, rfl, rfl⟩ (fun F3 sF3 i hi ρ M hJ σ H o => ?_) (fun ρ M hJ σ H o => ?_) o
      · obtain ⟨s5, rfl, rfl⟩ := hJ
        have hx := hodd _ (getD_in (l := [PyData.int 0, .int (m + 1), .bool true, .none, .str "1"]) hi)
        generalize [PyData.int 0, .int (m + 1), .bool true, .none, .str "1"].getD i .none = x at *
        replace o : Ok K F3 L σ H [.dat (.int n), .dat d, .loc (.ref f), .dat (.int m), s4, .dat x] [(PS, .tab nmS)] := o
        exact s_ifF0 (et_ref (erOk .place) (ev_refD (refE (hDE f hfm) hRef .place (.inr (.inr (.inr ⟨[.int m, .tuple [.int 1, .int m], x], .place, rfl, rfl, ⟨m, 1, m, x, rfl, ⟨by omega, by omega, by omega, by omega, hx⟩, rfl⟩, rfl⟩)))) (ev_varL rfl) (ev_varD rfl) (h1m rfl) (ev_varD rfl))) (fun H o => ⟨_, _, ⟨_, rfl, rfl⟩, o⟩) o
      · obtain ⟨s5, rfl, rfl⟩ := hJ
        exact s_ifF0 (et_refN (ev_refD (hDR f hfm m 1 m m (by omega) (by omega) (by omega) (by omega) (by omega) (by omega)) (ev_varL rfl) (ev_varD rfl) (h1m rfl) (ev_varD rfl))) (fun H o => ⟨_, _, ⟨_, _, _, _, rfl, rfl⟩, o⟩) o
  · obtain ⟨s2, s3, s4, s5, rfl, rfl⟩ := hJ
    refine q_ifF0 (et_refT (ev_refL (refX (can_s5 B hXX_stands_at_all) 16 ⟨60, .dat (.int 0), .dat (.int 0), rfl, rfl, rfl, by omega, by omega⟩) (ev_lam (P := PS) (nm := nmS) (by simp) (fun _ => rfl)) ev_int ev_int ev_int (fun z => nomatch z) (fun z => nomatch z) (fun z => nomatch z))) (fun H o => ?_) o
    exact s_retMs (Mn := [(PS, .tab nmS)]) (M1 := [(PS, .tab nmS)]) (ev_refEq (erOk .length) (ev_refL (refE (can_s6 B hX_stands_at_all) hRef .length ⟨d, .dat (.int 0), .dat (.int 0), rfl, rfl, hd, rfl⟩) (ev_lam (P := PS) (nm := nmS) (by simp) (fun _ => rfl)) (ev_varD rfl) ev_int ev_int (fun z => nomatch z) (fun z => nomatch z) (fun z => nomatch z))) (fun x hx => hx) hrt o
def X_l2 (ce : CE) (A B : List PyData → Er → Prop) (M : Ms) (ss : List Sl) (C : Addr) : Prop := XD ce A M ss C ∨ XD ce B M ss C
abbrev lamQ : Str := (("law" : Str) ++ ".<locals>.") ++ "<lambda>"
abbrev nmT : Nat → Nat → Str := fun _ _ => lamQ
/-- a(b) -/
def Xc1 (P : Program) (w : World) (K : PySem.W.Frag) (mg : Str → Option Value) (base : Heap) (M : Ms) (ss : List Sl) (C : Addr) : Prop := ∃ (s1 s3 : Sl) (d : PyData) (X : Ms → List Sl → Addr → Prop), M = [] ∧ ss = [s1, .dat d, s3] ∧ CanL P w K mg base 50 s1 (spE K X) ∧ X [] [.dat d] C
/-- a(b, c) -/
def Xc2 (P : Program) (w : World) (K : PySem.W.Frag) (mg : Str → Option Value) (base : Heap) (M : Ms) (ss : List Sl) (C : Addr) : Prop := ∃ (s1 : Sl) (d e : PyData) (X : Ms → List Sl → Addr → Prop), M = [] ∧ ss = [s1, .dat d, .dat e] ∧ CanL P w K mg base 50 s1 (spE K X) ∧ X [] [.dat d, .dat e] C
theorem cut_one (xs : List PyData) : cutD xs (some 1) none = xs.drop 1 := by
  unfold cutD
  have h1 : HT.sIx xs.length xs.length none = xs.length := rfl
  have h0 : HT.sIx xs.length 0 (some 1) = min 1 xs.length := by
    unfold HT.sIx
    simp
  rw [h0, h1]
  rw [List.take_of_length_le (by rw [List.length_drop]; omega)]
  by_cases h : 1 ≤ xs.length
  · rw [Nat.min_eq_left h]
  · rw [Nat.min_eq_right (by omega), List.drop_of_length_le (Nat.le_refl _), List.drop_of_length_le (by omega)]
theorem rep_words (k : Nat) : (List.replicate k [PyData.str wSame]).flatten = (List.replicate k wSame).map PyData.str := by
  induction k with
  | zero => rfl
  | succ k ih => rw [List.replicate_succ, List.replicate_succ, List.flatten_cons, ih]; rfl
theorem rep_ones (k : Nat) : (List.replicate k [PyData.int 1]).flatten = List.replicate k (PyData.int 1) := by
  induction k with
  | zero => rfl
  | succ k ih => rw [List.replicate_succ, List.replicate_succ, List.flatten_cons, ih]; rfl

abbrev s_law : Stmt := topS 61
theorem sc_law : FnScope ["script", "bag", "length", "stands", "none", "bads", "bad", "words", "door", "rows", "some"] ["script"] (defScope s_law) := ⟨rfl, rfl, rfl, by decide +kernel, rfl, by decide +kernel, by decide +kernel⟩
def bodyL : List Stmt := forB ((defBody s_law).getD 0 (.Pass ⟨0, 0, 0, 0⟩))
def law_l1 : Expr := arg0 (cmpL (ifT ((forB (bodyL.getD 6 (.Pass ⟨0, 0, 0, 0⟩))).getD 0 (.Pass ⟨0, 0, 0, 0⟩))))
def law_l2 : Expr := arg0 (cmpL (ifT (bodyL.getD 7 (.Pass ⟨0, 0, 0, 0⟩))))
def law_l3 : Expr := arg0 (cmpL (ifT ((forB (bodyL.getD 8 (.Pass ⟨0, 0, 0, 0⟩))).getD 0 (.Pass ⟨0, 0, 0, 0⟩))))
def law_l4 : Expr := arg0 (cmpL (ifT ((forB (bodyL.getD 8 (.Pass ⟨0, 0, 0, 0⟩))).getD 1 (.Pass ⟨0, 0, 0, 0⟩))))
def mk_l1 : Addr → NdefX.NF := fun c' => ⟨"<lambda>", lamQ, lamP (defArgs s_law) law_l1, [], lamS (defScope s_law) law_l1, [], c'⟩
theorem sc_l1 : NdefX.NScope ["a", "b", "c"] ["a", "b", "c"] [] (lamS (defScope s_law) law_l1) := NdefX.nscope_by (by decide +kernel)
theorem hb_l1 (c' : Addr) (pm ctv : Value) (us : List Value) (hl : us.length = ["a", "b", "c"].length) : bindArgs (PySem.W.kla_fn (mk_l1 c').name (mk_l1 c').qual (mk_l1 c').params (lamB law_l1) (mk_l1 c').scope (mk_l1 c').cl pm (.ref (mk_l1 c').c) ctv) ⟨us, []⟩ = pure ((["a", "b", "c"] : List Str).zip us) := match us, hl with
  | [_, _, _], _ => rfl
def mk_l2 : Addr → NdefX.NF := fun c' => ⟨"<lambda>", lamQ, lamP (defArgs s_law) law_l2, [], lamS (defScope s_law) law_l2, [], c'⟩
theorem sc_l2 : NdefX.NScope ["a", "b", "c"] ["a", "b", "c"] [] (lamS (defScope s_law) law_l2) := NdefX.nscope_by (by decide +kernel)
theorem hb_l2 (c' : Addr) (pm ctv : Value) (us : List Value) (hl : us.length = ["a", "b", "c"].length) : bindArgs (PySem.W.kla_fn (mk_l2 c').name (mk_l2 c').qual (mk_l2 c').params (lamB law_l2) (mk_l2 c').scope (mk_l2 c').cl pm (.ref (mk_l2 c').c) ctv) ⟨us, []⟩ = pure ((["a", "b", "c"] : List Str).zip us) := match us, hl with
  | [_, _, _], _ => rfl
def mk_l3 : Addr → NdefX.NF := fun c' => ⟨"<lambda>", lamQ, lamP (defArgs s_law) law_l3, [], lamS (defScope s_law) law_l3, [], c'⟩
theorem sc_l3 : NdefX.NScope ["a", "b", "c"] ["a", "b", "c"] [] (lamS (defScope s_law) law_l3) := NdefX.nscope_by (by decide +kernel)
theorem hb_l3 (c' : Addr) (pm ctv : Value) (us : List Value) (hl : us.length = ["a", "b", "c"].length) : bindArgs (PySem.W.kla_fn (mk_l3 c').name (mk_l3 c').qual (mk_l3 c').params (lamB law_l3) (mk_l3 c').scope (mk_l3 c').cl pm (.ref (mk_l3 c').c) ctv) ⟨us, []⟩ = pure ((["a", "b", "c"] : List Str).zip us) := match us, hl with
  | [_, _, _], _ => rfl
def mk_l4 : Addr → NdefX.NF := fun c' => ⟨"<lambda>", lamQ, lamP (defArgs s_law) law_l4, [], lamS (defScope s_law) law_l4, [], c'⟩
theorem sc_l4 : NdefX.NScope ["a", "b", "c"] ["a", "b", "c"] [] (lamS (defScope s_law) law_l4) := NdefX.nscope_by (by decide +kernel)
theorem hb_l4 (c' : Addr) (pm ctv : Value) (us : List Value) (hl : us.length = ["a", "b", "c"].length) : bindArgs (PySem.W.kla_fn (mk_l4 c').name (mk_l4 c').qual (mk_l4 c').params (lamB law_l4) (mk_l4 c').scope (mk_l4 c').cl pm (.ref (mk_l4 c').c) ctv) ⟨us, []⟩ = pure ((["a", "b", "c"] : List Str).zip us) := match us, hl with
  | [_, _, _], _ => rfl
theorem can_l1 : CanL P w K mg base 60 (.pr (φL mk_l1 (lamB law_l1))) (spE K (Xc1 P w K mg base)) := by
  refine .inl ⟨mk_l1, lamB law_l1, ["a", "b", "c"], rfl, fun f c' => lokE (k := 59) sc_l1 rfl (hb_l1 c') ?len (fun A outer s H E hr => ⟨_, (w_callv (P' := P) (w' := w) (K' := K) (mg' := mg) (base' := base) rfl rfl rfl rfl rfl (i := 0) (k := 50) (E := fun _ => E) hr (by first | decide | omega) (fun σ pins H s e s' => passN pins σ H s e s') rfl (by first | exact .inl rfl | exact .inr rfl) (pa_cons (pv 1) pa_nil)), ?_⟩)⟩
  case len =>
    rintro M ss C' ⟨s1, s3, d, X, rfl, rfl, hc, hX⟩; rfl
  rintro M ss C' ⟨s1, s3, d, X, rfl, rfl, hc, hX⟩ F L σ H Q hE o
  exact x_callV (fun _ _ _ _ h => h) hc rfl (EvA.cons (ev_varD (d := d) rfl) EvA.nil) [] (List.nil_sublist _) hX hE o
theorem can_l3 : CanL P w K mg base 60 (.pr (φL mk_l3 (lamB law_l3))) (spE K (Xc2 P w K mg base)) := by
  refine .inl ⟨mk_l3, lamB law_l3, ["a", "b", "c"], rfl, fun f c' => lokE (k := 59) sc_l3 rfl (hb_l3 c') ?len (fun A outer s H E hr => ⟨_, (w_callv (P' := P) (w' := w) (K' := K) (mg' := mg) (base' := base) rfl rfl rfl rfl rfl (i := 0) (k := 50) (E := fun _ => E) hr (by first | decide | omega) (fun σ pins H s e s' => passN pins σ H s e s') rfl (by first | exact .inl rfl | exact .inr rfl) (pa_cons (pv 1) (pa_cons (pv 2) pa_nil))), ?_⟩)⟩
  case len =>
    rintro M ss C' ⟨s1, d, e, X, rfl, rfl, hc, hX⟩; rfl
  rintro M ss C' ⟨s1, d, e, X, rfl, rfl, hc, hX⟩ F L σ H Q hE o
  exact x_callV (fun _ _ _ _ h => h) hc rfl (EvA.cons (ev_varD (d := d) rfl) (EvA.cons (ev_varD (d := e) rfl) EvA.nil)) [] (List.nil_sublist _) hX hE o
theorem can_l4 : CanL P w K mg base 60 (.pr (φL mk_l4 (lamB law_l4))) (spE K (Xc2 P w K mg base)) := by
  refine .inl ⟨mk_l4, lamB law_l4, ["a", "b", "c"], rfl, fun f c' => lokE (k := 59) sc_l4 rfl (hb_l4 c') ?len (fun A outer s H E hr => ⟨_, (w_callv (P' := P) (w' := w) (K' := K) (mg' := mg) (base' := base) rfl rfl rfl rfl rfl (i := 0) (k := 50) (E := fun _ => E) hr (by first | decide | omega) (fun σ pins H s e s' => passN pins σ H s e s') rfl (by first | exact .inl rfl | exact .inr rfl) (pa_cons (pv 1) (pa_cons (pv 2) pa_nil))), ?_⟩)⟩
  case len =>
    rintro M ss C' ⟨s1, d, e, X, rfl, rfl, hc, hX⟩; rfl
  rintro M ss C' ⟨s1, d, e, X, rfl, rfl, hc, hX⟩ F L σ H Q hE o
  exact x_callV (fun _ _ _ _ h => h) hc rfl (EvA.cons (ev_varD (d := d) rfl) (EvA.cons (ev_varD (d := e) rfl) EvA.nil)) [] (List.nil_sublist _) hX hE o
theorem can_l2 {ce : CE} {C_Search : Addr} (Y_Search : SearchC K mg C_Search) (hXI : ∃ (f : Addr) (fd : FuncData), FnOk P w K mg base (L2N.CX P w) 22 f fd ["self", "length"] (spE K (X_sInit ce)) ∧ Mk K C_Search f ∧ Binds K fd ["self", "length"] []) : CanL P w K mg base 60 (.pr (φL mk_l2 (lamB law_l2))) (spE K (X_sa ce)) := by
  obtain ⟨_, _, GX, kM, bX⟩ := hXI
  have g_Search := Y_Search.g
  refine .inl ⟨mk_l2, lamB law_l2, ["a", "b", "c"], rfl, fun f c' => lokE (k := 59) sc_l2 rfl (hb_l2 c') ?len (fun A outer s H E hr => ⟨_, (pe_make kM GX (hr.mono (by first | decide | omega)) (by rfl) g_Search bX .nil passN (pa_cons (pv 0) pa_nil)), ?_⟩)⟩
  case len =>
    rintro M ss C' ⟨d, s2, s3, rfl, rfl, _⟩; rfl
  rintro M ss C' ⟨d, s2, s3, rfl, rfl, hw, rfl⟩ F L σ H Q hE o
  exact x_make (EvA.cons (ev_varD (d := d) rfl) EvA.nil) (fun x => ⟨x, d, rfl, rfl, hw, rfl⟩) hE o
set_option maxHeartbeats 16000000 in
theorem ok_law {f cL PL PS : Addr} (ne : PL ≠ PS) {dV kV doc pm ct oc : Value} {an od : Option Addr} {osl : Array (Option Value)} (lk : K.lookup f = some ⟨oc, od, .func (PySem.W.fnOf "law" "law" (defArgs s_law) (defBody s_law) (defScope s_law) dV kV doc pm an (.ref cL) ct), osl⟩) (hcd : PySem.W.codeIn K (.ref cL) "law" = true) (B : Bl mg) (TB : LamX.TabB base mg cL PL)  (h_law_bags : Has P w K mg base 3 "_law_bags" ["script", "limit"] (spB K R_law_bags)) (h_law_take : Has P w K mg base 1 "_law_take" ["bag", "many"] (spM K R_law_take)) (h_law_some_stands : Has P w K mg base 2 "_law_some_stands" ["bag", "length", "most"] (spMN K R_law_some_stands)) (h_law_things_refused : Has P w K mg base 62 "_law_things_refused" ["length", "none", "bad"] (spP K R_law_things_refused))
    {ce : CE} {C_Search : Addr} (Y_Search : SearchC K mg C_Search) (hXI : ∃ (f : Addr) (fd : FuncData), FnOk P w K mg base (L2N.CX P w) 22 f fd ["self", "length"] (spE K (X_sInit ce)) ∧ Mk K C_Search f ∧ Binds K fd ["self", "length"] [])
    {T S : Addr} {es : List Addr} (hRef : ∀ x : Er, RefE K T S es (ce x) x.nm) {d_fewest_ahead d_stands_ahead d_how_many d_alike d_how_many_round d_can_lie d_fewest_wrong d_can_lie_round : Addr} (gd_fewest_ahead : mg "fewest_ahead" = some (.ref d_fewest_ahead)) (gd_stands_ahead : mg "stands_ahead" = some (.ref d_stands_ahead)) (gd_how_many : mg "how_many" = some (.ref d_how_many)) (gd_alike : mg "alike" = some (.ref d_alike)) (gd_how_many_round : mg "how_many_round" = some (.ref d_how_many_round)) (gd_can_lie : mg "can_lie" = some (.ref d_can_lie)) (gd_fewest_wrong : mg "fewest_wrong" = some (.ref d_fewest_wrong)) (gd_can_lie_round : mg "can_lie_round" = some (.ref d_can_lie_round))
    (h1 : ∀ f ∈ [d_fewest_ahead, d_stands_ahead], CanL P w K mg base 50 (.loc (.ref f)) (spE K (XD ce X_fewest_aheadA))) (h2 : ∀ f ∈ [d_how_many, d_alike, d_how_many_round], CanL P w K mg base 50 (.loc (.ref f)) (spE K (X_l2 ce X_how_manyA X_how_manyB)))
    (h3 : ∀ f ∈ [d_can_lie, d_fewest_wrong, d_can_lie_round], CanL P w K mg base 60 (.loc (.ref f)) (spE K (X_l3 ce X_can_lieA X_can_lieB X_can_lieC)))
    (h3R : ∀ f ∈ [d_can_lie, d_fewest_wrong, d_can_lie_round], ∀ (n : Int) (xs : List Int) (ws : List Str), 1 ≤ n ∧ n ≤ 60 → stOk n xs → wsOk xs ws → Ref15 P w K mg base T S es (.loc (.ref f)) [.dat (.int n), .dat (dI xs), .dat (dS ws)] (.list []))
    (h_law_short_refused : Has P w K mg base 62 "_law_short_refused" ["length", "none"] (spMs K (R_law_short PS))) (h_law_refused : Has P w K mg base 61 "_law_refused" ["call", "one", "two", "three"] (spMs K (R_ref15 P w K mg base T S es))) :
    FnOk P w K mg base CX0 63 f (PySem.W.fnOf "law" "law" (defArgs s_law) (defBody s_law) (defScope s_law) dV kV doc pm an (.ref cL) ct) ["script"] (spLaw2 K PL PS) := by
  obtain ⟨_, _, G_law_bags, g_law_bags, k_law_bags, b_law_bags⟩ := h_law_bags
  obtain ⟨_, _, G_law_take, g_law_take, k_law_take, b_law_take⟩ := h_law_take
  obtain ⟨_, _, G_law_some_stands, g_law_some_stands, k_law_some_stands, b_law_some_stands⟩ := h_law_some_stands
  obtain ⟨_, _, G_law_refused, g_law_refused, k_law_refused, b_law_refused⟩ := h_law_refused
  obtain ⟨_, _, G_law_things_refused, g_law_things_refused, k_law_things_refused, b_law_things_refused⟩ := h_law_things_refused
  obtain ⟨_, _, G_law_short_refused, g_law_short_refused, k_law_short_refused, b_law_short_refused⟩ := h_law_short_refused
  refine okLaw2 (n1 := nmT) (n2 := nmS) (T1 := PL) (T2 := PS) (k := 62) ne lk hcd sc_law rfl fun A outer s H E hr => ⟨_, (pss_cons (ps_for PassesOwn.never rfl (wi_list (K' := K) rfl (pe_call G_law_bags (hr.mono (by first | decide | omega)) (by rfl) g_law_bags k_law_bags b_law_bags .nil pass0 (pa_cons (pv 0) (pa_cons pe_int pa_nil)))) (pg_name (i := 1) sc_law.nd rfl (by first | exact .inl rfl | exact .inr rfl))
      (pss_cons (ps_set (i := 2) sc_law.nd rfl (by first | exact .inl rfl | exact .inr rfl) (pe_op op_add pe_int (pe_call G_law_take (hr.mono (by first | decide | omega)) (by rfl) g_law_take k_law_take b_law_take .nil pass0 (pa_cons (pv 1) (pa_cons pe_int pa_nil)))))
      (pss_cons (ps_set (i := 3) sc_law.nd rfl (by first | exact .inl rfl | exact .inr rfl) (pe_call G_law_some_stands (hr.mono (by first | decide | omega)) (by rfl) g_law_some_stands k_law_some_stands b_law_some_stands .nil pass0 (pa_cons (pv 1) (pa_cons (pv 2) (pa_cons pe_int pa_nil)))))
      (pss_cons (ps_set (i := 4) sc_law.nd rfl (by first | exact .inl rfl | exact .inr rfl) (pe_ix (w_ixL (K' := K) rfl) (pe_lst (pa_cons pe_non (pa_cons pe_int (pa_cons pe_int (pa_cons pe_bl (pa_cons pe_str (pa_cons (pe_tup (pa_cons pe_int pa_nil)) (pa_cons (pe_un un_neg pe_int) pa_nil)))))))) (pe_call G_law_take (hr.mono (by first | decide | omega)) (by rfl) g_law_take k_law_take b_law_take .nil pass0 (pa_cons (pv 1) (pa_cons pe_int pa_nil))) (fun _ _ => rfl)))
      (pss_cons (ps_set (i := 5) sc_law.nd rfl (by first | exact .inl rfl | exact .inr rfl) (pe_lst (pa_cons pe_non (pa_cons (we_tupleOf (K' := K) rfl (by rfl) B.tuple_ (pv 3)) (pa_cons (pe_lst (pa_cons pe_int pa_nil)) (pa_cons (pe_lst (pa_cons (pe_op op_add (pv 2) pe_int) pa_nil)) (pa_cons (pe_lst (pa_cons pe_bl pa_nil)) (pa_cons (pe_lst (pa_cons pe_non pa_nil)) (pa_cons pe_str (pa_cons (pe_op o_rep (pe_lst (pa_cons pe_int pa_nil)) pe_int) pa_nil))))))))))
      (pss_cons (ps_set (i := 6) sc_law.nd rfl (by first | exact .inl rfl | exact .inr rfl) (pe_ix (w_ixL (K' := K) rfl) (pv 5) (pe_call G_law_take (hr.mono (by first | decide | omega)) (by rfl) g_law_take k_law_take b_law_take .nil pass0 (pa_cons (pv 1) (pa_cons pe_int pa_nil))) (fun _ _ => rfl)))
      (pss_cons (ps_set (i := 7) sc_law.nd rfl (by first | exact .inl rfl | exact .inr rfl) (pe_op o_rep (pe_lst (pa_cons pe_str pa_nil)) (pe_callB (c_max2 rfl) (by rfl) B.max_ (by decide +kernel) (pa_cons pe_int (pa_cons (pe_op op_sub (pe_callB (w_len (K' := K) rfl) (by rfl) B.len_ (by decide +kernel) (pa_cons (pv 3) pa_nil)) pe_int) pa_nil)))))
      (pss_cons (ps_for PassesOwn.never rfl (wi_tup (K' := K) rfl (pe_tup (pa_cons (pe_glob (by rfl) gd_fewest_ahead (show RelV (.ref d_fewest_ahead) _ from rfl)) (pa_cons (pe_glob (by rfl) gd_stands_ahead (show RelV (.ref d_stands_ahead) _ from rfl)) pa_nil)))) (pg_name (i := 8) sc_law.nd rfl (by first | exact .inl rfl | exact .inr rfl))
      (pss_one (ps_if (pt_cmpR (w_neD (K' := K) rfl hr.units) (pe_call G_law_refused (hr.mono (by first | decide | omega)) (by rfl) g_law_refused k_law_refused b_law_refused .nil pass0 (pa_cons (pe_lam (nm := nmT) TB rfl rfl rfl (by decide +kernel)) (pa_cons (pv 8) (pa_cons (pv 4) (pa_cons pe_int pa_nil))))) (pe_lst (pa_cons pe_str (pa_cons pe_bl pa_nil))) (nomark _)) (pss_one (ps_ret pe_bl)) pss_nil)))
      (pss_cons (ps_if (pt_cmpR (w_neD (K' := K) rfl hr.units) (pe_call G_law_refused (hr.mono (by first | decide | omega)) (by rfl) g_law_refused k_law_refused b_law_refused .nil pass0 (pa_cons (pe_lam (nm := nmT) TB rfl rfl rfl (by decide +kernel)) (pa_cons (pv 4) (pa_cons pe_int (pa_cons pe_int pa_nil))))) (pe_lst (pa_cons pe_str (pa_cons pe_bl pa_nil))) (nomark _)) (pss_one (ps_ret pe_bl)) pss_nil)
      (pss_cons (ps_for PassesOwn.never rfl (wi_tup (K' := K) rfl (pe_tup (pa_cons (pe_glob (by rfl) gd_how_many (show RelV (.ref d_how_many) _ from rfl)) (pa_cons (pe_glob (by rfl) gd_alike (show RelV (.ref d_alike) _ from rfl)) (pa_cons (pe_glob (by rfl) gd_how_many_round (show RelV (.ref d_how_many_round) _ from rfl)) pa_nil))))) (pg_name (i := 8) sc_law.nd rfl (by first | exact .inl rfl | exact .inr rfl))
      (pss_cons (ps_if (pt_cmpR (w_neD (K' := K) rfl hr.units) (pe_call G_law_refused (hr.mono (by first | decide | omega)) (by rfl) g_law_refused k_law_refused b_law_refused .nil pass0 (pa_cons (pe_lam (nm := nmT) TB rfl rfl rfl (by decide +kernel)) (pa_cons (pv 8) (pa_cons (pv 4) (pa_cons pe_non pa_nil))))) (pe_lst (pa_cons pe_str (pa_cons pe_bl pa_nil))) (nomark _)) (pss_one (ps_ret pe_bl)) pss_nil)
      (pss_one (ps_if (pt_cmpR (w_neD (K' := K) rfl hr.units) (pe_call G_law_refused (hr.mono (by first | decide | omega)) (by rfl) g_law_refused k_law_refused b_law_refused .nil pass0 (pa_cons (pe_lam (nm := nmT) TB rfl rfl rfl (by decide +kernel)) (pa_cons (pv 8) (pa_cons (pv 2) (pa_cons (pv 6) pa_nil))))) (pe_lst (pa_cons pe_str (pa_cons pe_bl pa_nil))) (nomark _)) (pss_one (ps_ret pe_bl)) pss_nil))))
      (pss_cons (ps_for PassesOwn.never rfl (wi_tup (K' := K) rfl (pe_tup (pa_cons (pe_glob (by rfl) gd_can_lie (show RelV (.ref d_can_lie) _ from rfl)) (pa_cons (pe_glob (by rfl) gd_fewest_wrong (show RelV (.ref d_fewest_wrong) _ from rfl)) (pa_cons (pe_glob (by rfl) gd_can_lie_round (show RelV (.ref d_can_lie_round) _ from rfl)) pa_nil))))) (pg_name (i := 8) sc_law.nd rfl (by first | exact .inl rfl | exact .inr rfl))
      (pss_cons (ps_if (pt_cmpR (w_neD (K' := K) rfl hr.units) (pe_call G_law_refused (hr.mono (by first | decide | omega)) (by rfl) g_law_refused k_law_refused b_law_refused .nil pass0 (pa_cons (pv 8) (pa_cons (pv 4) (pa_cons pe_non (pa_cons pe_non pa_nil))))) (pe_lst (pa_cons pe_str (pa_cons pe_bl pa_nil))) (nomark _)) (pss_one (ps_ret pe_bl)) pss_nil)
      (pss_cons (ps_if (pt_cmpR (w_neD (K' := K) rfl hr.units) (pe_call G_law_refused (hr.mono (by first | decide | omega)) (by rfl) g_law_refused k_law_refused b_law_refused .nil pass0 (pa_cons (pv 8) (pa_cons (pv 2) (pa_cons (pv 6) (pa_cons pe_non pa_nil))))) (pe_lst (pa_cons pe_str (pa_cons pe_bl pa_nil))) (nomark _)) (pss_one (ps_ret pe_bl)) pss_nil)
      (pss_cons (ps_set (i := 9) sc_law.nd rfl (by first | exact .inl rfl | exact .inr rfl) (pe_lst (pa_cons pe_non (pa_cons (we_tupleOf (K' := K) rfl (by rfl) B.tuple_ (pv 7)) (pa_cons (pe_op o_cat (pv 7) (pe_lst (pa_cons pe_str pa_nil))) (pa_cons (pe_ifExp (pt_cmpR (w_neD (K' := K) rfl hr.units) (pv 7) (pe_lst pa_nil) (nomark _)) (pe_op o_cat (pe_slice (w_slL (K' := K) rfl) (pv 7) (po_some pe_int) po_none) (pe_lst (pa_cons pe_non pa_nil))) (pe_lst (pa_cons pe_str pa_nil))) pa_nil))))))
      (pss_cons (ps_for PassesOwn.never rfl (wi_list (K' := K) rfl (pv 9)) (pg_name (i := 10) sc_law.nd rfl (by first | exact .inl rfl | exact .inr rfl))
      (pss_one (ps_if (pt_cmpR (w_neD (K' := K) rfl hr.units) (pe_call G_law_refused (hr.mono (by first | decide | omega)) (by rfl) g_law_refused k_law_refused b_law_refused .nil pass0 (pa_cons (pv 8) (pa_cons (pv 2) (pa_cons (pv 3) (pa_cons (pv 10) pa_nil))))) (pe_lst (pa_cons pe_str (pa_cons pe_bl pa_nil))) (nomark _)) (pss_one (ps_ret pe_bl)) pss_nil)))
      (pss_one (ps_if (pt_cmpR (w_neD (K' := K) rfl hr.units) (pe_call G_law_refused (hr.mono (by first | decide | omega)) (by rfl) g_law_refused k_law_refused b_law_refused .nil pass0 (pa_cons (pv 8) (pa_cons (pv 2) (pa_cons (pv 3) (pa_cons (pv 7) pa_nil))))) (pe_lst pa_nil) (nomark _)) (pss_one (ps_ret pe_bl)) pss_nil)))))))
      (pss_cons (ps_if (pt_not (pt_val (pe_call G_law_things_refused (hr.mono (by first | decide | omega)) (by rfl) g_law_things_refused k_law_things_refused b_law_things_refused .nil pass0 (pa_cons (pv 2) (pa_cons (pv 4) (pa_cons (pv 6) pa_nil)))))) (pss_one (ps_ret pe_bl)) pss_nil)
      (pss_one (ps_if (pt_not (pt_val (pe_call G_law_short_refused (hr.mono (by first | decide | omega)) (by rfl) g_law_short_refused k_law_short_refused b_law_short_refused .nil pass0 (pa_cons (pv 2) (pa_cons (pv 4) pa_nil))))) (pss_one (ps_ret pe_bl)) pss_nil))))))))))))))
      (pss_one (ps_ret pe_bl))), ?_⟩
  intro xs0 hxs F L σ H D hrt o
  try dsimp only [cxOf]
  refine q_bagsM (Tb := [(PL, .tab nmT), (PS, .tab nmS)]) (fun ρ => ∃ s1 s2 s3 s4 s5 s6 s7 s8 s9 s10, ρ = [.dat (dScr xs0), s1, s2, s3, s4, s5, s6, s7, s8, s9, s10]) (evb_law_bags (by wtm_at "ev") (by wtm_at "ev") (by decide)) ⟨.un, .un, .un, .un, .un, .un, .un, .un, .un, .un, rfl⟩ (fun F' L' i b ρ D' hi hJ hnx σ H o => ?_) (fun ρ hJ σ H o => ?_) o
  · obtain ⟨s1, s2, s3, s4, s5, s6, s7, s8, s9, s10, rfl⟩ := hJ
    obtain ⟨dr, hdr, edr⟩ := bagOf_eq xs0 (i : Nat)
    replace o : Ok K F' L' σ H [.dat (dScr xs0), .loc (.ref b), s2, s3, s4, s5, s6, s7, s8, s9, s10] [(b, bg dr 0), (PL, .tab nmT), (PS, .tab nmS)] := by rw [edr] at o; exact o
    obtain ⟨n, c1, hn, hc1, e1⟩ := x_one (K := K) (ρ := [.dat (dScr xs0), .loc (.ref b), s2, s3, s4, s5, s6, s7, s8, s9, s10]) (p := b) (dr := dr) (pos := 0) (pos' := 0) (Mr := [(PL, .tab nmT), (PS, .tab nmS)]) (b := 1) (E := E0) (tb := tC (.int 60)) (n := 60) rfl ev_int hdr (by decide) (by decide)
    refine q_asg e1 (fun σ H o => ?_) o
    replace o : Ok K F' L' σ H [.dat (dScr xs0), .loc (.ref b), .dat (.int n), s3, s4, s5, s6, s7, s8, s9, s10] [(b, bg dr c1), (PL, .tab nmT), (PS, .tab nmS)] := o
    obtain ⟨xs, c2, hst, hc2, e2⟩ := x_stands (K := K) (ρ := [.dat (dScr xs0), .loc (.ref b), .dat (.int n), s3, s4, s5, s6, s7, s8, s9, s10]) (p := b) (dr := dr) (pos := c1) (pos' := c1) (Mr := [(PL, .tab nmT), (PS, .tab nmS)]) (b := 1) (E := E0) (tb := tVar 2) (tc := tC (.int 40)) (n := n) (most := 40) rfl (ev_varD rfl) ev_int hdr hc1 hn.1 (by decide)
    refine q_asg (EvN.ev e2) (fun σ H o => ?_) o
    have hx : stOk n xs := ⟨by omega, hst.2⟩
    have hxl := hx.1
    replace o : Ok K F' L' σ H [.dat (dScr xs0), .loc (.ref b), .dat (.int n), .dat (dI xs), s4, s5, s6, s7, s8, s9, s10] [(b, bg dr c2), (PL, .tab nmT), (PS, .tab nmS)] := o
    obtain ⟨t7, c3, ht7, hc3, e3⟩ := x_take (K := K) (ρ := [.dat (dScr xs0), .loc (.ref b), .dat (.int n), .dat (dI xs), s4, s5, s6, s7, s8, s9, s10]) (p := b) (dr := dr) (pos := c2) (pos' := c2) (Mr := [(PL, .tab nmT), (PS, .tab nmS)]) (b := 1) (E := E0) (tb := tC (.int 7)) (many := 7) rfl ev_int hdr hc2 (by decide)
    obtain ⟨d, hdv⟩ : ∃ d, [PyData.none, .int 0, .int 61, .bool true, .str "7", .tuple [.int 7], .int (-1)][t7.toNat]? = some d := ⟨[PyData.none, .int 0, .int 61, .bool true, .str "7", .tuple [.int 7], .int (-1)][t7.toNat]'(by show _ < 7; omega), List.getElem?_eq_getElem (by show _ < 7; omega)⟩
    have hd : within d 1 60 = false := by
      have hm := List.mem_of_getElem? hdv
      simp only [List.mem_cons, List.not_mem_nil, or_false] at hm
      rcases hm with z | z | z | z | z | z | z <;> rw [z] <;> rfl
    refine q_asg (s := .dat d) (M1 := [(b, bg dr c3), (PL, .tab nmT), (PS, .tab nmS)]) (ev_ixL (ds := [PyData.none, .int 0, .int 61, .bool true, .str "7", .tuple [.int 7], .int (-1)]) (EvN.ev (evn_lst (ds := [PyData.none, .int 0, .int 61, .bool true, .str "7", .tuple [.int 7], .int (-1)]) (EvA.cons ev_non (EvA.cons ev_int (EvA.cons ev_int (EvA.cons ev_bl (EvA.cons ev_str (EvA.cons (ev_tupD (ds := [.int 7]) (ed_cons ev_int ed_nil) (by simp)) (EvA.cons (ev_neg ev_int) EvA.nil))))))))) e3 (by rw [atI_pos ht7.1 (by exact ht7.2)]; exact hdv)) (fun σ H o => ?_) o
    replace o : Ok K F' L' σ H [.dat (dScr xs0), .loc (.ref b), .dat (.int n), .dat (dI xs), .dat d, s5, s6, s7, s8, s9, s10] [(b, bg dr c3), (PL, .tab nmT), (PS, .tab nmS)] := o
    refine q_asg (s := .dat (.list [PyData.none, .tuple (xs.map PyData.int), .list [.int 0], .list [.int (n + 1)], .list [.bool true], .list [.none], .str "1", .list (List.replicate (41 : Int).toNat [PyData.int 1]).flatten])) (M1 := [(b, bg dr c3), (PL, .tab nmT), (PS, .tab nmS)]) (EvN.ev (evn_lst (ds := [PyData.none, .tuple (xs.map PyData.int), .list [.int 0], .list [.int (n + 1)], .list [.bool true], .list [.none], .str "1", .list (List.replicate (41 : Int).toNat [PyData.int 1]).flatten]) (EvA.cons ev_non (EvA.cons (ev_tupleL (ev_varD rfl)) (EvA.cons (EvN.ev (evn_lst (ds := [.int 0]) (EvA.cons ev_int EvA.nil))) (EvA.cons (EvN.ev (evn_lst (ds := [.int (n + 1)]) (EvA.cons (ev_add (ev_varD rfl) ev_int) EvA.nil))) (EvA.cons (EvN.ev (evn_lst (ds := [.bool true]) (EvA.cons ev_bl EvA.nil))) (EvA.cons (EvN.ev (evn_lst (ds := [.none]) (EvA.cons ev_non EvA.nil))) (EvA.cons ev_str (EvA.cons (EvN.ev (evn_rep (k := 41) (EvN.ev (evn_lst (ds := [.int 1]) (EvA.cons ev_int EvA.nil))) ev_int (by decide) (by simp) (by decide))) EvA.nil)))))))))) (fun σ H o => ?_) o
    have hbad : ∀ x ∈ [PyData.none, .tuple (xs.map PyData.int), .list [.int 0], .list [.int (n + 1)], .list [.bool true], .list [.none], .str "1", .list (List.replicate (41 : Int).toNat [PyData.int 1]).flatten], badSt n x = true := fun x hx => by
      simp only [List.mem_cons, List.not_mem_nil, or_false] at hx
      rcases hx with z | z | z | z | z | z | z | z <;> rw [z]
      · rfl
      · rfl
      · simp [badSt, within]
      · simp [badSt, within]; omega
      · simp [badSt, within]
      · simp [badSt, within]
      · rfl
      · rw [rep_ones]; simp [badSt]
    have hbl : [PyData.none, .tuple (xs.map PyData.int), .list [.int 0], .list [.int (n + 1)], .list [.bool true], .list [.none], .str "1", .list (List.replicate (41 : Int).toNat [PyData.int 1]).flatten].length = 8 := rfl
    generalize [PyData.none, .tuple (xs.map PyData.int), .list [.int 0], .list [.int (n + 1)], .list [.bool true], .list [.none], .str "1", .list (List.replicate (41 : Int).toNat [PyData.int 1]).flatten] = bads at o hbad hbl
    replace o : Ok K F' L' σ H [.dat (dScr xs0), .loc (.ref b), .dat (.int n), .dat (dI xs), .dat d, .dat (.list bads), s6, s7, s8, s9, s10] [(b, bg dr c3), (PL, .tab nmT), (PS, .tab nmS)] := o
    obtain ⟨t8, c4, ht8, hc4, e4⟩ := x_take (K := K) (ρ := [.dat (dScr xs0), .loc (.ref b), .dat (.int n), .dat (dI xs), .dat d, .dat (.list bads), s6, s7, s8, s9, s10]) (p := b) (dr := dr) (pos := c3) (pos' := c3) (Mr := [(PL, .tab nmT), (PS, .tab nmS)]) (b := 1) (E := E0) (tb := tC (.int 8)) (many := 8) rfl ev_int hdr hc3 (by decide)
    obtain ⟨bd, hbv⟩ : ∃ bd, bads[t8.toNat]? = some bd := ⟨bads[t8.toNat]'(by omega), List.getElem?_eq_getElem (by omega)⟩
    have hb := hbad bd (List.mem_of_getElem? hbv)
    refine q_asg (s := .dat bd) (M1 := [(b, bg dr c4), (PL, .tab nmT), (PS, .tab nmS)]) (ev_ixL (ds := bads) (ev_varD rfl) e4 (by rw [atI_pos ht8.1 (by omega)]; exact hbv)) (fun σ H o => ?_) o
    replace o : Ok K F' L' σ H [.dat (dScr xs0), .loc (.ref b), .dat (.int n), .dat (dI xs), .dat d, .dat (.list bads), .dat bd, s7, s8, s9, s10] [(b, bg dr c4), (PL, .tab nmT), (PS, .tab nmS)] := o
    refine q_asg (s := .dat (dS (List.replicate (xs.length - 1) wSame))) (M1 := [(b, bg dr c4), (PL, .tab nmT), (PS, .tab nmS)]) (ev_isD (EvN.ev (evn_rep (k := max 0 ((xs.length : Int) - 1)) (EvN.ev (evn_lst (ds := [.str "same"]) (EvA.cons ev_str EvA.nil))) (ev_isD (ev_max2 (EvA.cons ev_int (EvA.cons (ev_sub (ev_lenL (EvA.cons (ev_varD rfl) EvA.nil)) ev_int) EvA.nil))) (by rw [List.length_map])) (by omega) (by simp) (by omega))) ?ew) (fun σ H o => ?_) o
    case ew =>
      rw [show (max 0 ((xs.length : Int) - 1)).toNat = xs.length - 1 by omega]
      exact congrArg PyData.list (rep_words _)
    have hws : wsOk xs (List.replicate (xs.length - 1) wSame) := ⟨List.length_replicate .., fun w hw => by rw [List.eq_of_mem_replicate hw]; decide +kernel⟩
    generalize List.replicate (xs.length - 1) wSame = ws at o hws
    have hwk : ∀ w ∈ ws, PyData.strOk w = true := fun w h => wordsL_ok _ (hws.2 w h)
    have hwl : ws.length = xs.length - 1 := hws.1
    replace o : Ok K F' L' σ H [.dat (dScr xs0), .loc (.ref b), .dat (.int n), .dat (dI xs), .dat d, .dat (.list bads), .dat bd, .dat (dS ws), s8, s9, s10] [(b, bg dr c4), (PL, .tab nmT), (PS, .tab nmS)] := o
    refine q_forF (fs := [d_fewest_ahead, d_stands_ahead]) (fun i ρ M => ∃ s8 : Sl, ρ = [.dat (dScr xs0), .loc (.ref b), .dat (.int n), .dat (dI xs), .dat d, .dat (.list bads), .dat bd, .dat (dS ws), s8, s9, s10] ∧ M = [(b, bg dr c4), (PL, .tab nmT), (PS, .tab nmS)]) (EvA.cons ev_ref (EvA.cons ev_ref EvA.nil)) (by simp) ⟨s8, rfl, rfl⟩ (fun F2 sF i f hf ρ M hJ σ H o => ?_) (fun ρ M hJ σ H o => ?_) o
    · obtain ⟨s8, rfl, rfl⟩ := hJ
      have hfm := List.mem_of_getElem? hf
      replace o : Ok K F2 L' σ H [.dat (dScr xs0), .loc (.ref b), .dat (.int n), .dat (dI xs), .dat d, .dat (.list bads), .dat bd, .dat (dS ws), .loc (.ref f), s9, s10] [(b, bg dr c4), (PL, .tab nmT), (PS, .tab nmS)] := o
      exact s_ifF0 (et_ref (erOk .length) (ev_refL (refE can_l1 hRef .length ⟨.loc (.ref f), .dat (.int 0), d, XD ce X_fewest_aheadA, rfl, rfl, h1 f hfm, ⟨[d], .length, rfl, rfl, ⟨d, rfl, hd, rfl⟩, rfl⟩⟩) (ev_lam (P := PL) (nm := nmT) (by simp) (fun _ => rfl)) (ev_varL rfl) (ev_varD rfl) ev_int (fun z => nomatch z) (fun z => nomatch z) (fun z => nomatch z))) (fun H o => ⟨_, _, ⟨_, rfl, rfl⟩, o⟩) o
    obtain ⟨s8, rfl, rfl⟩ := hJ
    refine q_ifF0 (et_ref (erOk .length) (ev_refL (refE (can_l2 Y_Search hXI) hRef .length ⟨d, .dat (.int 0), .dat (.int 0), rfl, rfl, hd, rfl⟩) (ev_lam (P := PL) (nm := nmT) (by simp) (fun _ => rfl)) (ev_varD rfl) ev_int ev_int (fun z => nomatch z) (fun z => nomatch z) (fun z => nomatch z))) (fun H o => ?_) o
    refine q_forF (fs := [d_how_many, d_alike, d_how_many_round]) (fun i ρ M => ∃ s8 : Sl, ρ = [.dat (dScr xs0), .loc (.ref b), .dat (.int n), .dat (dI xs), .dat d, .dat (.list bads), .dat bd, .dat (dS ws), s8, s9, s10] ∧ M = [(b, bg dr c4), (PL, .tab nmT), (PS, .tab nmS)]) (EvA.cons ev_ref (EvA.cons ev_ref (EvA.cons ev_ref EvA.nil))) (by simp) ⟨s8, rfl, rfl⟩ (fun F2 sF i f hf ρ M hJ σ H o => ?_) (fun ρ M hJ σ H o => ?_) o
    · obtain ⟨s8, rfl, rfl⟩ := hJ
      have hfm := List.mem_of_getElem? hf
      replace o : Ok K F2 L' σ H [.dat (dScr xs0), .loc (.ref b), .dat (.int n), .dat (dI xs), .dat d, .dat (.list bads), .dat bd, .dat (dS ws), .loc (.ref f), s9, s10] [(b, bg dr c4), (PL, .tab nmT), (PS, .tab nmS)] := o
      refine q_ifF0 (et_ref (erOk .length) (ev_refL (refE can_l3 hRef .length ⟨.loc (.ref f), d, .none, X_l2 ce X_how_manyA X_how_manyB, rfl, rfl, h2 f hfm, .inl ⟨[d, .none], .length, rfl, rfl, ⟨d, .none, rfl, hd, rfl⟩, rfl⟩⟩) (ev_lam (P := PL) (nm := nmT) (by simp) (fun _ => rfl)) (ev_varL rfl) (ev_varD rfl) ev_non (fun z => nomatch z) (fun z => nomatch z) (fun z => nomatch z))) (fun H o => ?_) o
      exact s_ifF0 (et_ref (erOk .stands) (ev_refL (refE can_l4 hRef .stands ⟨.loc (.ref f), .int n, bd, X_l2 ce X_how_manyA X_how_manyB, rfl, rfl, h2 f hfm, .inr ⟨[.int n, bd], .stands, rfl, rfl, ⟨n, bd, rfl, ⟨hn, hb⟩, rfl⟩, rfl⟩⟩) (ev_lam (P := PL) (nm := nmT) (by simp) (fun _ => rfl)) (ev_varL rfl) (ev_varD rfl) (ev_varD rfl) (fun z => nomatch z) (fun z => nomatch z) (fun z => nomatch z))) (fun H o => ⟨_, _, ⟨_, rfl, rfl⟩, o⟩) o
    obtain ⟨s8, rfl, rfl⟩ := hJ
    refine q_forF (fs := [d_can_lie, d_fewest_wrong, d_can_lie_round]) (fun i ρ M => ∃ s8 s9 s10 : Sl, ρ = [.dat (dScr xs0), .loc (.ref b), .dat (.int n), .dat (dI xs), .dat d, .dat (.list bads), .dat bd, .dat (dS ws), s8, s9, s10] ∧ M = [(b, bg dr c4), (PL, .tab nmT), (PS, .tab nmS)]) (EvA.cons ev_ref (EvA.cons ev_ref (EvA.cons ev_ref EvA.nil))) (by simp) ⟨s8, s9, s10, rfl, rfl⟩ (fun F2 sF i f hf ρ M hJ σ H o => ?_) (fun ρ M hJ σ H o => ?_) o
    · obtain ⟨s8, s9, s10, rfl, rfl⟩ := hJ
      have hfm := List.mem_of_getElem? hf
      replace o : Ok K F2 L' σ H [.dat (dScr xs0), .loc (.ref b), .dat (.int n), .dat (dI xs), .dat d, .dat (.list bads), .dat bd, .dat (dS ws), .loc (.ref f), s9, s10] [(b, bg dr c4), (PL, .tab nmT), (PS, .tab nmS)] := o
      refine q_ifF0 (et_ref (erOk .length) (ev_refD (refE (h3 f hfm) hRef .length (.inl ⟨[d, .none, .none], .length, rfl, rfl, ⟨d, .none, .none, rfl, hd, rfl⟩, rfl⟩)) (ev_varL rfl) (ev_varD rfl) ev_non ev_non)) (fun H o => ?_) o
      refine q_ifF0 (et_ref (erOk .stands) (ev_refD (refE (h3 f hfm) hRef .stands (.inr (.inl ⟨[.int n, bd, .none], .stands, rfl, rfl, ⟨n, bd, .none, rfl, ⟨hn, hb⟩, rfl⟩, rfl⟩))) (ev_varL rfl) (ev_varD rfl) (ev_varD rfl) ev_non)) (fun H o => ?_) o
      obtain ⟨r3, hr3, er3⟩ : ∃ r3, (∃ y, X_need_answersA [dI xs, r3] y ∨ X_need_answersB [dI xs, r3] y) ∧ Ev K (tIf (tTest (tOp (rNeD K) (tVar 7) (tLst tNil))) (tOp rCatL (tSl (rSlL K) (tVar 7) (tPart (tC (.int 1))) tNoPart) (tLst (tCons (tC .non) tNil))) (tLst (tCons (tC (.str "warm")) tNil))) [.dat (dScr xs0), .loc (.ref b), .dat (.int n), .dat (dI xs), .dat d, .dat (.list bads), .dat bd, .dat (dS ws), .loc (.ref f), s9, s10] [(b, bg dr c4), (PL, .tab nmT), (PS, .tab nmS)] (.dat r3) [(b, bg dr c4), (PL, .tab nmT), (PS, .tab nmS)] := by
        by_cases hw0 : ws = []
        · refine ⟨.list [.str wWarm], ⟨.answers, .inl ⟨xs, .list [.str wWarm], rfl, ?_, rfl⟩⟩, ev_iteF (et_is (et_test (ev_neD (d1 := dS ws) (d2 := dS []) (ev_varD rfl) (EvN.ev (evn_lst (ds := []) EvA.nil)) ((sh_dS hwk).shaped (by decide)) (by decide +kernel))) (by rw [eqv_dS, decide_eq_true hw0]; rfl)) (EvN.ev (evn_lst (ds := [.str wWarm]) (EvA.cons ev_str EvA.nil)))⟩
          show 1 ≠ xs.length - 1
          rw [← hwl, hw0]; simp
        · have h1 : 1 ≤ ws.length := List.length_pos_iff.mpr hw0
          refine ⟨.list ((ws.map PyData.str).drop 1 ++ [.none]), ⟨.answers, .inr ⟨xs, _, rfl, ⟨by simp; omega, by simp; omega, by simp [isWord]⟩, rfl⟩⟩, ev_iteT (et_is (et_test (ev_neD (d1 := dS ws) (d2 := dS []) (ev_varD rfl) (EvN.ev (evn_lst (ds := []) EvA.nil)) ((sh_dS hwk).shaped (by decide)) (by decide +kernel))) (by rw [eqv_dS, decide_eq_false hw0]; rfl)) (EvN.ev (evn_cat (EvN.ev (evn_is (evn_slL (ev_varD rfl) (eo_some ev_int) eo_no) (cut_one _))) (EvN.ev (evn_lst (ds := [.none]) (EvA.cons ev_non EvA.nil))) (by simp; omega)))⟩
      have hrow : ∀ x ∈ [PyData.none, .tuple (ws.map PyData.str), .list (ws.map PyData.str ++ [.str wWarm]), r3], ∃ y, X_need_answersA [dI xs, x] y ∨ X_need_answersB [dI xs, x] y := fun x hx => by
        simp only [List.mem_cons, List.not_mem_nil, or_false] at hx
        rcases hx with z | z | z | z <;> rw [z]
        · exact ⟨.answers, .inl ⟨xs, .none, rfl, True.intro, rfl⟩⟩
        · exact ⟨.answers, .inl ⟨xs, _, rfl, True.intro, rfl⟩⟩
        · exact ⟨.answers, .inl ⟨xs, _, rfl, (by show (ws.map PyData.str ++ [PyData.str wWarm]).length ≠ xs.length - 1; simp; omega), rfl⟩⟩
        · exact hr3
      refine q_asg (s := .dat (.list [PyData.none, .tuple (ws.map PyData.str), .list (ws.map PyData.str ++ [.str wWarm]), r3])) (M1 := [(b, bg dr c4), (PL, .tab nmT), (PS, .tab nmS)]) (EvN.ev (evn_lst (ds := [PyData.none, .tuple (ws.map PyData.str), .list (ws.map PyData.str ++ [.str wWarm]), r3]) (EvA.cons ev_non (EvA.cons (ev_tupleL (ev_varD rfl)) (EvA.cons (EvN.ev (evn_cat (ev_varD rfl) (EvN.ev (evn_lst (ds := [.str wWarm]) (EvA.cons ev_str EvA.nil))) (by simp; omega))) (EvA.cons er3 EvA.nil)))))) (fun σ H o => ?_) o
      replace o : Ok K F2 L' σ H [.dat (dScr xs0), .loc (.ref b), .dat (.int n), .dat (dI xs), .dat d, .dat (.list bads), .dat bd, .dat (dS ws), .loc (.ref f), .dat (.list [PyData.none, .tuple (ws.map PyData.str), .list (ws.map PyData.str ++ [.str wWarm]), r3]), s10] [(b, bg dr c4), (PL, .tab nmT), (PS, .tab nmS)] := o
      refine q_for0 (n := 4) (item := fun i => [PyData.none, .tuple (ws.map PyData.str), .list (ws.map PyData.str ++ [.str wWarm]), r3].getD i .none) (fun i ρ M => ∃ s10 : Sl, ρ = [.dat (dScr xs0), .loc (.ref b), .dat (.int n), .dat (dI xs), .dat d, .dat (.list bads), .dat bd, .dat (dS ws), .loc (.ref f), .dat (.list [PyData.none, .tuple (ws.map PyData.str), .list (ws.map PyData.str ++ [.str wWarm]), r3]), s10] ∧ M = [(b, bg dr c4), (PL, .tab nmT), (PS, .tab nmS)]) (ei_list (ds := [PyData.none, .tuple (ws.map PyData.str), .list (ws.map PyData.str ++ [.str wWarm]), r3]) (ev_varD rfl)) (by wtm_at "eg") ⟨s10, rfl, rfl⟩ (fun F3 sF3 i hi ρ M hJ σ H o => ?_) (fun ρ M hJ σ H o => ?_) o
      · obtain ⟨s10, rfl, rfl⟩ := hJ
        obtain ⟨y, hy⟩ := hrow _ (getD_in (l := [PyData.none, .tuple (ws.map PyData.str), .list (ws.map PyData.str ++ [.str wWarm]), r3]) hi)
        replace o : Ok K F3 L' σ H [.dat (dScr xs0), .loc (.ref b), .dat (.int n), .dat (dI xs), .dat d, .dat (.list bads), .dat bd, .dat (dS ws), .loc (.ref f), .dat (.list [PyData.none, .tuple (ws.map PyData.str), .list (ws.map PyData.str ++ [.str wWarm]), r3]), .dat ([PyData.none, .tuple (ws.map PyData.str), .list (ws.map PyData.str ++ [.str wWarm]), r3].getD i .none)] [(b, bg dr c4), (PL, .tab nmT), (PS, .tab nmS)] := o
        generalize [PyData.none, .tuple (ws.map PyData.str), .list (ws.map PyData.str ++ [.str wWarm]), r3].getD i .none = x at *
        exact s_ifF0 (et_ref (erOk .answers) (ev_refD (refE (h3 f hfm) hRef .answers (.inr (.inr ⟨[.int n, dI xs, x], .answers, rfl, rfl, ⟨n, xs, x, rfl, ⟨hn, hx, y, hy⟩, rfl⟩, rfl⟩))) (ev_varL rfl) (ev_varD rfl) (ev_varD rfl) (ev_varD rfl))) (fun H o => ⟨_, _, ⟨_, rfl, rfl⟩, o⟩) o
      · obtain ⟨s10, rfl, rfl⟩ := hJ
        exact s_ifF0 (et_refN (ev_refD (h3R f hfm n xs ws hn hx hws) (ev_varL rfl) (ev_varD rfl) (ev_varD rfl) (ev_varD rfl))) (fun H o => ⟨_, _, ⟨_, _, _, rfl, rfl⟩, o⟩) o
    obtain ⟨s8, s9, s10, rfl, rfl⟩ := hJ
    refine q_ifF0 (et_is (et_not (et_test (ev_callD (R := R_law_things_refused) (ed_cons (ev_varD (d := .int n) rfl) (ed_cons (ev_varD (d := d) rfl) (ed_cons (ev_varD (d := bd) rfl) ed_nil))) ⟨n, d, bd, rfl, hn, hd, hb, rfl⟩))) rfl) (fun H o => ?_) o
    have sub : [(PS, MO.tab nmS)].Sublist [(b, bg dr c4), (PL, .tab nmT), (PS, .tab nmS)] := ((List.Sublist.refl _).cons _).cons _
    refine s_ifF0 (et_is (et_not (et_test (ev_callMs (M1 := [(b, bg dr c4), (PL, .tab nmT), (PS, .tab nmS)]) (r := .bool true) (EvA.cons (ev_varD (d := .int n) rfl) (EvA.cons (ev_varD (d := d) rfl) EvA.nil)) [(PS, .tab nmS)] [(PS, .tab nmS)] rfl (fun nd => Sw.same sub nd) ⟨n, d, rfl, rfl, rfl, hn, hd, rfl⟩))) rfl) (fun H o => ?_) o
    exact hnx _ _ _ _ ⟨_, _, _, _, _, _, _, _, _, _, rfl⟩ (by simp) o
  · obtain ⟨s1, s2, s3, s4, s5, s6, s7, s8, s9, s10, rfl⟩ := hJ
    exact s_retTrue ev_bl hrt o
def ceOf (a b c d e : Addr) : CE
  | .length => a
  | .place => b
  | .stands => c
  | .answers => d
  | .stretch => e
/-- which of the classes D is -/
def rowB (K : PySem.W.Frag) (D : Addr) (es : List Addr) (i : Nat) : Bool := es.zipIdx.all fun x => PySem.W.kitOne K (.ref D) (.ref x.1) == some (decide (i = x.2))
theorem rowB_at {K : PySem.W.Frag} {D : Addr} {es : List Addr} {i : Nat} (h : rowB K D es i = true) : ∀ (j : Nat) (c : Addr), es[j]? = some c → PySem.W.kitOne K (.ref D) (.ref c) = some (decide (i = j)) := fun j c hj => by
  unfold rowB at h
  rw [List.all_eq_true] at h
  have z := h (c, j) (List.mem_zipIdx_iff_getElem?.mpr hj)
  exact eq_of_beq z

end
theorem all_mk {l : PySem.W.OpenLaw} {w : World} {K : PySem.W.Frag} {h : Heap} {mg : Str → Option Value} {fa f0 f1 f2 f3 f4 f5 f6 f7 f8 f9 f10 f11 f12 f13 f14 f15 f16 f17 f18 f19 f20 f21 f22 f23 f24 f25 f26 f27 f28 f29 f30 f31 f32 f33 f34 f35 f36 f37 : Addr} {ts : List Addr} (X : K.In h) (G : h.Ns mainGlobals mg) (hfa : mg "law" = some (.ref fa)) (tabs : ∀ P ∈ ts, h.get? P = some (PySem.W.tabObj #[]))
    {od0 an0 : Option Addr} {sl0 : Array (Option Value)} {oc0 kV0 dc0 pm0 ct0 : Value}
    {cd0 : Value}
    (a0 : PySem.W.nsIn K mainGlobals "is_within" = some (some (.ref f0)))
    (l0 : K.lookup f0 = some ⟨oc0, od0, .func (PySem.W.fnOf "is_within" "is_within" (defArgs s_is_within) (defBody s_is_within) (defScope s_is_within) .none kV0 dc0 pm0 an0 cd0 ct0), sl0⟩)
    (c0 : PySem.W.codeIn K cd0 "is_within" = true)
    (k0 : PySem.W.keepIn K (.ref f0) = true)
    {od1 an1 : Option Addr} {sl1 : Array (Option Value)} {oc1 kV1 dc1 pm1 ct1 : Value}
    {cd1 : Value}
    (a1 : PySem.W.nsIn K mainGlobals "need_length" = some (some (.ref f1)))
    (l1 : K.lookup f1 = some ⟨oc1, od1, .func (PySem.W.fnOf "need_length" "need_length" (defArgs s_need_length) (defBody s_need_length) (defScope s_need_length) .none kV1 dc1 pm1 an1 cd1 ct1), sl1⟩)
    (c1 : PySem.W.codeIn K cd1 "need_length" = true)
    (k1 : PySem.W.keepIn K (.ref f1) = true)
    {od2 an2 : Option Addr} {sl2 : Array (Option Value)} {oc2 kV2 dc2 pm2 ct2 : Value}
    {cd2 : Value}
    (a2 : PySem.W.nsIn K mainGlobals "need_short" = some (some (.ref f2)))
    (l2 : K.lookup f2 = some ⟨oc2, od2, .func (PySem.W.fnOf "need_short" "need_short" (defArgs s_need_short) (defBody s_need_short) (defScope s_need_short) .none kV2 dc2 pm2 an2 cd2 ct2), sl2⟩)
    (c2 : PySem.W.codeIn K cd2 "need_short" = true)
    (k2 : PySem.W.keepIn K (.ref f2) = true)
    {od3 an3 : Option Addr} {sl3 : Array (Option Value)} {oc3 kV3 dc3 pm3 ct3 : Value}
    {cd3 : Value}
    (a3 : PySem.W.nsIn K mainGlobals "need_place" = some (some (.ref f3)))
    (l3 : K.lookup f3 = some ⟨oc3, od3, .func (PySem.W.fnOf "need_place" "need_place" (defArgs s_need_place) (defBody s_need_place) (defScope s_need_place) .none kV3 dc3 pm3 an3 cd3 ct3), sl3⟩)
    (c3 : PySem.W.codeIn K cd3 "need_place" = true)
    (k3 : PySem.W.keepIn K (.ref f3) = true)
    {od4 an4 : Option Addr} {sl4 : Array (Option Value)} {oc4 kV4 dc4 pm4 ct4 : Value}
    {cd4 : Value}
    (a4 : PySem.W.nsIn K mainGlobals "need_stands" = some (some (.ref f4)))
    (l4 : K.lookup f4 = some ⟨oc4, od4, .func (PySem.W.fnOf "need_stands" "need_stands" (defArgs s_need_stands) (defBody s_need_stands) (defScope s_need_stands) .none kV4 dc4 pm4 an4 cd4 ct4), sl4⟩)
    (c4 : PySem.W.codeIn K cd4 "need_stands" = true)
    (k4 : PySem.W.keepIn K (.ref f4) = true)
    {od5 an5 : Option Addr} {sl5 : Array (Option Value)} {oc5 kV5 dc5 pm5 ct5 : Value}
    {cd5 : Value}
    (a5 : PySem.W.nsIn K mainGlobals "is_answer" = some (some (.ref f5)))
    (l5 : K.lookup f5 = some ⟨oc5, od5, .func (PySem.W.fnOf "is_answer" "is_answer" (defArgs s_is_answer) (defBody s_is_answer) (defScope s_is_answer) .none kV5 dc5 pm5 an5 cd5 ct5), sl5⟩)
    (c5 : PySem.W.codeIn K cd5 "is_answer" = true)
    (k5 : PySem.W.keepIn K (.ref f5) = true)
    {od6 an6 : Option Addr} {sl6 : Array (Option Value)} {oc6 kV6 dc6 pm6 ct6 : Value}
    {cd6 : Value}
    (a6 : PySem.W.nsIn K mainGlobals "need_answers" = some (some (.ref f6)))
    (l6 : K.lookup f6 = some ⟨oc6, od6, .func (PySem.W.fnOf "need_answers" "need_answers" (defArgs s_need_answers) (defBody s_need_answers) (defScope s_need_answers) .none kV6 dc6 pm6 an6 cd6 ct6), sl6⟩)
    (c6 : PySem.W.codeIn K cd6 "need_answers" = true)
    (k6 : PySem.W.keepIn K (.ref f6) = true)
    {od7 an7 : Option Addr} {sl7 : Array (Option Value)} {oc7 kV7 dc7 pm7 ct7 : Value}
    {cd7 : Value}
    (a7 : PySem.W.nsIn K mainGlobals "word_for" = some (some (.ref f7)))
    (l7 : K.lookup f7 = some ⟨oc7, od7, .func (PySem.W.fnOf "word_for" "word_for" (defArgs s_word_for) (defBody s_word_for) (defScope s_word_for) .none kV7 dc7 pm7 an7 cd7 ct7), sl7⟩)
    (c7 : PySem.W.codeIn K cd7 "word_for" = true)
    (k7 : PySem.W.keepIn K (.ref f7) = true)
    {od8 an8 : Option Addr} {sl8 : Array (Option Value)} {oc8 kV8 dc8 pm8 ct8 : Value}
    {cd8 : Value}
    (a8 : PySem.W.nsIn K mainGlobals "answer" = some (some (.ref f8)))
    (l8 : K.lookup f8 = some ⟨oc8, od8, .func (PySem.W.fnOf "answer" "answer" (defArgs s_answer) (defBody s_answer) (defScope s_answer) .none kV8 dc8 pm8 an8 cd8 ct8), sl8⟩)
    (c8 : PySem.W.codeIn K cd8 "answer" = true)
    (k8 : PySem.W.keepIn K (.ref f8) = true)
    {od9 an9 : Option Addr} {sl9 : Array (Option Value)} {oc9 kV9 dc9 pm9 ct9 : Value}
    {cd9 : Value}
    (a9 : PySem.W.nsIn K mainGlobals "all_answers" = some (some (.ref f9)))
    (l9 : K.lookup f9 = some ⟨oc9, od9, .func (PySem.W.fnOf "all_answers" "all_answers" (defArgs s_all_answers) (defBody s_all_answers) (defScope s_all_answers) .none kV9 dc9 pm9 an9 cd9 ct9), sl9⟩)
    (c9 : PySem.W.codeIn K cd9 "all_answers" = true)
    (k9 : PySem.W.keepIn K (.ref f9) = true)
    {od10 an10 : Option Addr} {sl10 : Array (Option Value)} {oc10 kV10 dc10 pm10 ct10 : Value}
    {cd10 : Value}
    (a10 : PySem.W.nsIn K mainGlobals "answers_to" = some (some (.ref f10)))
    (l10 : K.lookup f10 = some ⟨oc10, od10, .func (PySem.W.fnOf "answers_to" "answers_to" (defArgs s_answers_to) (defBody s_answers_to) (defScope s_answers_to) .none kV10 dc10 pm10 an10 cd10 ct10), sl10⟩)
    (c10 : PySem.W.codeIn K cd10 "answers_to" = true)
    (k10 : PySem.W.keepIn K (.ref f10) = true)
    {od11 an11 : Option Addr} {sl11 : Array (Option Value)} {oc11 kV11 dc11 pm11 ct11 : Value}
    {cd11 : Value}
    (a11 : PySem.W.nsIn K mainGlobals "places_for" = some (some (.ref f11)))
    (l11 : K.lookup f11 = some ⟨oc11, od11, .func (PySem.W.fnOf "places_for" "places_for" (defArgs s_places_for) (defBody s_places_for) (defScope s_places_for) .none kV11 dc11 pm11 an11 cd11 ct11), sl11⟩)
    (c11 : PySem.W.codeIn K cd11 "places_for" = true)
    (k11 : PySem.W.keepIn K (.ref f11) = true)
    {od12 an12 : Option Addr} {sl12 : Array (Option Value)} {oc12 kV12 dc12 pm12 ct12 : Value}
    {cd12 : Value}
    (a12 : PySem.W.nsIn K mainGlobals "can_lie" = some (some (.ref f12)))
    (l12 : K.lookup f12 = some ⟨oc12, od12, .func (PySem.W.fnOf "can_lie" "can_lie" (defArgs s_can_lie) (defBody s_can_lie) (defScope s_can_lie) .none kV12 dc12 pm12 an12 cd12 ct12), sl12⟩)
    (c12 : PySem.W.codeIn K cd12 "can_lie" = true)
    (k12 : PySem.W.keepIn K (.ref f12) = true)
    {od13 an13 : Option Addr} {sl13 : Array (Option Value)} {oc13 kV13 dc13 pm13 ct13 : Value}
    {cd13 : Value}
    (a13 : PySem.W.nsIn K mainGlobals "fewest_wrong" = some (some (.ref f13)))
    (l13 : K.lookup f13 = some ⟨oc13, od13, .func (PySem.W.fnOf "fewest_wrong" "fewest_wrong" (defArgs s_fewest_wrong) (defBody s_fewest_wrong) (defScope s_fewest_wrong) .none kV13 dc13 pm13 an13 cd13 ct13), sl13⟩)
    (c13 : PySem.W.codeIn K cd13 "fewest_wrong" = true)
    (k13 : PySem.W.keepIn K (.ref f13) = true)
    {od14 an14 : Option Addr} {sl14 : Array (Option Value)} {oc14 kV14 dc14 pm14 ct14 : Value}
    {cd14 : Value}
    (a14 : PySem.W.nsIn K mainGlobals "rows_of" = some (some (.ref f14)))
    (l14 : K.lookup f14 = some ⟨oc14, od14, .func (PySem.W.fnOf "rows_of" "rows_of" (defArgs s_rows_of) (defBody s_rows_of) (defScope s_rows_of) .none kV14 dc14 pm14 an14 cd14 ct14), sl14⟩)
    (c14 : PySem.W.codeIn K cd14 "rows_of" = true)
    (k14 : PySem.W.keepIn K (.ref f14) = true)
    {od15 an15 : Option Addr} {sl15 : Array (Option Value)} {oc15 kV15 dc15 pm15 ct15 : Value}
    {cd15 : Value}
    (a15 : PySem.W.nsIn K mainGlobals "how_many" = some (some (.ref f15)))
    (l15 : K.lookup f15 = some ⟨oc15, od15, .func (PySem.W.fnOf "how_many" "how_many" (defArgs s_how_many) (defBody s_how_many) (defScope s_how_many) .none kV15 dc15 pm15 an15 cd15 ct15), sl15⟩)
    (c15 : PySem.W.codeIn K cd15 "how_many" = true)
    (k15 : PySem.W.keepIn K (.ref f15) = true)
    {od16 an16 : Option Addr} {sl16 : Array (Option Value)} {oc16 kV16 dc16 pm16 ct16 : Value}
    {cd16 : Value}
    (a16 : PySem.W.nsIn K mainGlobals "alike" = some (some (.ref f16)))
    (l16 : K.lookup f16 = some ⟨oc16, od16, .func (PySem.W.fnOf "alike" "alike" (defArgs s_alike) (defBody s_alike) (defScope s_alike) .none kV16 dc16 pm16 an16 cd16 ct16), sl16⟩)
    (c16 : PySem.W.codeIn K cd16 "alike" = true)
    (k16 : PySem.W.keepIn K (.ref f16) = true)
    {od17 an17 : Option Addr} {sl17 : Array (Option Value)} {oc17 kV17 dc17 pm17 ct17 : Value}
    {cd17 : Value}
    (a17 : PySem.W.nsIn K mainGlobals "fewest_ahead" = some (some (.ref f17)))
    (l17 : K.lookup f17 = some ⟨oc17, od17, .func (PySem.W.fnOf "fewest_ahead" "fewest_ahead" (defArgs s_fewest_ahead) (defBody s_fewest_ahead) (defScope s_fewest_ahead) .none kV17 dc17 pm17 an17 cd17 ct17), sl17⟩)
    (c17 : PySem.W.codeIn K cd17 "fewest_ahead" = true)
    (k17 : PySem.W.keepIn K (.ref f17) = true)
    {od18 an18 : Option Addr} {sl18 : Array (Option Value)} {oc18 kV18 dc18 pm18 ct18 : Value}
    {cd18 : Value}
    (a18 : PySem.W.nsIn K mainGlobals "stands_ahead" = some (some (.ref f18)))
    (l18 : K.lookup f18 = some ⟨oc18, od18, .func (PySem.W.fnOf "stands_ahead" "stands_ahead" (defArgs s_stands_ahead) (defBody s_stands_ahead) (defScope s_stands_ahead) .none kV18 dc18 pm18 an18 cd18 ct18), sl18⟩)
    (c18 : PySem.W.codeIn K cd18 "stands_ahead" = true)
    (k18 : PySem.W.keepIn K (.ref f18) = true)
    {od19 an19 : Option Addr} {sl19 : Array (Option Value)} {oc19 kV19 dc19 pm19 ct19 : Value}
    {cd19 : Value}
    (a19 : PySem.W.nsIn K mainGlobals "need_asked" = some (some (.ref f19)))
    (l19 : K.lookup f19 = some ⟨oc19, od19, .func (PySem.W.fnOf "need_asked" "need_asked" (defArgs s_need_asked) (defBody s_need_asked) (defScope s_need_asked) .none kV19 dc19 pm19 an19 cd19 ct19), sl19⟩)
    (c19 : PySem.W.codeIn K cd19 "need_asked" = true)
    (k19 : PySem.W.keepIn K (.ref f19) = true)
    {od20 an20 : Option Addr} {sl20 : Array (Option Value)} {oc20 kV20 dc20 pm20 ct20 : Value}
    {cd20 : Value}
    (a20 : PySem.W.nsIn K mainGlobals "best_pair" = some (some (.ref f20)))
    (l20 : K.lookup f20 = some ⟨oc20, od20, .func (PySem.W.fnOf "best_pair" "best_pair" (defArgs s_best_pair) (defBody s_best_pair) (defScope s_best_pair) .none kV20 dc20 pm20 an20 cd20 ct20), sl20⟩)
    (c20 : PySem.W.codeIn K cd20 "best_pair" = true)
    (k20 : PySem.W.keepIn K (.ref f20) = true)
    {od21 an21 : Option Addr} {sl21 : Array (Option Value)} {oc21 kV21 dc21 pm21 ct21 : Value}
    {cd21 : Value}
    (a21 : PySem.W.nsIn K mainGlobals "stands_from" = some (some (.ref f21)))
    (l21 : K.lookup f21 = some ⟨oc21, od21, .func (PySem.W.fnOf "stands_from" "stands_from" (defArgs s_stands_from) (defBody s_stands_from) (defScope s_stands_from) .none kV21 dc21 pm21 an21 cd21 ct21), sl21⟩)
    (c21 : PySem.W.codeIn K cd21 "stands_from" = true)
    (k21 : PySem.W.keepIn K (.ref f21) = true)
    {od22 an22 : Option Addr} {sl22 : Array (Option Value)} {oc22 kV22 dc22 pm22 ct22 : Value}
    {cd22 : Value}
    (a22 : PySem.W.nsIn K mainGlobals "steps_from" = some (some (.ref f22)))
    (l22 : K.lookup f22 = some ⟨oc22, od22, .func (PySem.W.fnOf "steps_from" "steps_from" (defArgs s_steps_from) (defBody s_steps_from) (defScope s_steps_from) .none kV22 dc22 pm22 an22 cd22 ct22), sl22⟩)
    (c22 : PySem.W.codeIn K cd22 "steps_from" = true)
    (k22 : PySem.W.keepIn K (.ref f22) = true)
    {od23 an23 : Option Addr} {sl23 : Array (Option Value)} {oc23 kV23 dc23 pm23 ct23 : Value}
    {cd23 : Value}
    (a23 : PySem.W.nsIn K mainGlobals "stands_at_all" = some (some (.ref f23)))
    (l23 : K.lookup f23 = some ⟨oc23, od23, .func (PySem.W.fnOf "stands_at_all" "stands_at_all" (defArgs s_stands_at_all) (defBody s_stands_at_all) (defScope s_stands_at_all) .none kV23 dc23 pm23 an23 cd23 ct23), sl23⟩)
    (c23 : PySem.W.codeIn K cd23 "stands_at_all" = true)
    (k23 : PySem.W.keepIn K (.ref f23) = true)
    {od24 an24 : Option Addr} {sl24 : Array (Option Value)} {oc24 kV24 dc24 pm24 ct24 : Value}
    {cd24 : Value}
    (a24 : PySem.W.nsIn K mainGlobals "far_round" = some (some (.ref f24)))
    (l24 : K.lookup f24 = some ⟨oc24, od24, .func (PySem.W.fnOf "far_round" "far_round" (defArgs s_far_round) (defBody s_far_round) (defScope s_far_round) .none kV24 dc24 pm24 an24 cd24 ct24), sl24⟩)
    (c24 : PySem.W.codeIn K cd24 "far_round" = true)
    (k24 : PySem.W.keepIn K (.ref f24) = true)
    {od25 an25 : Option Addr} {sl25 : Array (Option Value)} {oc25 kV25 dc25 pm25 ct25 : Value}
    {cd25 : Value}
    (a25 : PySem.W.nsIn K mainGlobals "answers_round" = some (some (.ref f25)))
    (l25 : K.lookup f25 = some ⟨oc25, od25, .func (PySem.W.fnOf "answers_round" "answers_round" (defArgs s_answers_round) (defBody s_answers_round) (defScope s_answers_round) .none kV25 dc25 pm25 an25 cd25 ct25), sl25⟩)
    (c25 : PySem.W.codeIn K cd25 "answers_round" = true)
    (k25 : PySem.W.keepIn K (.ref f25) = true)
    {od26 an26 : Option Addr} {sl26 : Array (Option Value)} {oc26 kV26 dc26 pm26 ct26 : Value}
    {cd26 : Value}
    (a26 : PySem.W.nsIn K mainGlobals "can_lie_round" = some (some (.ref f26)))
    (l26 : K.lookup f26 = some ⟨oc26, od26, .func (PySem.W.fnOf "can_lie_round" "can_lie_round" (defArgs s_can_lie_round) (defBody s_can_lie_round) (defScope s_can_lie_round) .none kV26 dc26 pm26 an26 cd26 ct26), sl26⟩)
    (c26 : PySem.W.codeIn K cd26 "can_lie_round" = true)
    (k26 : PySem.W.keepIn K (.ref f26) = true)
    {od27 an27 : Option Addr} {sl27 : Array (Option Value)} {oc27 kV27 dc27 pm27 ct27 : Value}
    {cd27 : Value}
    (a27 : PySem.W.nsIn K mainGlobals "how_many_round" = some (some (.ref f27)))
    (l27 : K.lookup f27 = some ⟨oc27, od27, .func (PySem.W.fnOf "how_many_round" "how_many_round" (defArgs s_how_many_round) (defBody s_how_many_round) (defScope s_how_many_round) .none kV27 dc27 pm27 an27 cd27 ct27), sl27⟩)
    (c27 : PySem.W.codeIn K cd27 "how_many_round" = true)
    (k27 : PySem.W.keepIn K (.ref f27) = true)
    {od28 an28 : Option Addr} {sl28 : Array (Option Value)} {oc28 kV28 dc28 pm28 ct28 : Value}
    {cd28 : Value}
    (a28 : PySem.W.nsIn K mainGlobals "_law_cell_at" = some (some (.ref f28)))
    (l28 : K.lookup f28 = some ⟨oc28, od28, .func (PySem.W.fnOf "_law_cell_at" "_law_cell_at" (defArgs s_law_cell_at) (defBody s_law_cell_at) (defScope s_law_cell_at) .none kV28 dc28 pm28 an28 cd28 ct28), sl28⟩)
    (c28 : PySem.W.codeIn K cd28 "_law_cell_at" = true)
    (k28 : PySem.W.keepIn K (.ref f28) = true)
    {od29 an29 : Option Addr} {sl29 : Array (Option Value)} {oc29 kV29 dc29 pm29 ct29 : Value}
    {cd29 : Value}
    (a29 : PySem.W.nsIn K mainGlobals "_law_draws" = some (some (.ref f29)))
    (l29 : K.lookup f29 = some ⟨oc29, od29, .func (PySem.W.fnOf "_law_draws" "_law_draws" (defArgs s_law_draws) (defBody s_law_draws) (defScope s_law_draws) .none kV29 dc29 pm29 an29 cd29 ct29), sl29⟩)
    (c29 : PySem.W.codeIn K cd29 "_law_draws" = true)
    (k29 : PySem.W.keepIn K (.ref f29) = true)
    {od30 an30 : Option Addr} {sl30 : Array (Option Value)} {oc30 kV30 dc30 pm30 ct30 : Value}
    {cd30 : Value}
    (a30 : PySem.W.nsIn K mainGlobals "_law_bag" = some (some (.ref f30)))
    (l30 : K.lookup f30 = some ⟨oc30, od30, .func (PySem.W.fnOf "_law_bag" "_law_bag" (defArgs s_law_bag) (defBody s_law_bag) (defScope s_law_bag) .none kV30 dc30 pm30 an30 cd30 ct30), sl30⟩)
    (c30 : PySem.W.codeIn K cd30 "_law_bag" = true)
    (k30 : PySem.W.keepIn K (.ref f30) = true)
    {od31 an31 : Option Addr} {sl31 : Array (Option Value)} {oc31 kV31 dc31 pm31 ct31 : Value}
    {cd31 : Value}
    (a31 : PySem.W.nsIn K mainGlobals "_law_bags" = some (some (.ref f31)))
    (l31 : K.lookup f31 = some ⟨oc31, od31, .func (PySem.W.fnOf "_law_bags" "_law_bags" (defArgs s_law_bags) (defBody s_law_bags) (defScope s_law_bags) .none kV31 dc31 pm31 an31 cd31 ct31), sl31⟩)
    (c31 : PySem.W.codeIn K cd31 "_law_bags" = true)
    (k31 : PySem.W.keepIn K (.ref f31) = true)
    {od32 an32 : Option Addr} {sl32 : Array (Option Value)} {oc32 kV32 dc32 pm32 ct32 : Value}
    {cd32 : Value}
    (a32 : PySem.W.nsIn K mainGlobals "_law_take" = some (some (.ref f32)))
    (l32 : K.lookup f32 = some ⟨oc32, od32, .func (PySem.W.fnOf "_law_take" "_law_take" (defArgs s_law_take) (defBody s_law_take) (defScope s_law_take) .none kV32 dc32 pm32 an32 cd32 ct32), sl32⟩)
    (c32 : PySem.W.codeIn K cd32 "_law_take" = true)
    (k32 : PySem.W.keepIn K (.ref f32) = true)
    {od33 an33 : Option Addr} {sl33 : Array (Option Value)} {oc33 kV33 dc33 pm33 ct33 : Value}
    {cd33 : Value}
    (a33 : PySem.W.nsIn K mainGlobals "_law_some_stands" = some (some (.ref f33)))
    (l33 : K.lookup f33 = some ⟨oc33, od33, .func (PySem.W.fnOf "_law_some_stands" "_law_some_stands" (defArgs s_law_some_stands) (defBody s_law_some_stands) (defScope s_law_some_stands) .none kV33 dc33 pm33 an33 cd33 ct33), sl33⟩)
    (c33 : PySem.W.codeIn K cd33 "_law_some_stands" = true)
    (k33 : PySem.W.keepIn K (.ref f33) = true)
    {od34 an34 : Option Addr} {sl34 : Array (Option Value)} {oc34 kV34 dc34 pm34 ct34 : Value}
    {cd34 : Value}
    (a34 : PySem.W.nsIn K mainGlobals "_law_refused" = some (some (.ref f34)))
    (l34 : K.lookup f34 = some ⟨oc34, od34, .func (PySem.W.fnOf "_law_refused" "_law_refused" (defArgs s_law_refused) (defBody s_law_refused) (defScope s_law_refused) .none kV34 dc34 pm34 an34 cd34 ct34), sl34⟩)
    (c34 : PySem.W.codeIn K cd34 "_law_refused" = true)
    (k34 : PySem.W.keepIn K (.ref f34) = true)
    {od35 an35 : Option Addr} {sl35 : Array (Option Value)} {oc35 kV35 dc35 pm35 ct35 : Value}
    {cS : Addr}
    (a35 : PySem.W.nsIn K mainGlobals "_law_short_refused" = some (some (.ref f35)))
    (l35 : K.lookup f35 = some ⟨oc35, od35, .func (PySem.W.fnOf "_law_short_refused" "_law_short_refused" (defArgs s_law_short_refused) (defBody s_law_short_refused) (defScope s_law_short_refused) .none kV35 dc35 pm35 an35 (.ref cS) ct35), sl35⟩)
    (c35 : PySem.W.codeIn K (.ref cS) "_law_short_refused" = true)
    (k35 : PySem.W.keepIn K (.ref f35) = true)
    {od36 an36 : Option Addr} {sl36 : Array (Option Value)} {oc36 kV36 dc36 pm36 ct36 : Value}
    {cd36 : Value}
    (a36 : PySem.W.nsIn K mainGlobals "_law_things_refused" = some (some (.ref f36)))
    (l36 : K.lookup f36 = some ⟨oc36, od36, .func (PySem.W.fnOf "_law_things_refused" "_law_things_refused" (defArgs s_law_things_refused) (defBody s_law_things_refused) (defScope s_law_things_refused) .none kV36 dc36 pm36 an36 cd36 ct36), sl36⟩)
    (c36 : PySem.W.codeIn K cd36 "_law_things_refused" = true)
    (k36 : PySem.W.keepIn K (.ref f36) = true)
    {od37 an37 : Option Addr} {sl37 : Array (Option Value)} {oc37 kV37 dc37 pm37 ct37 : Value}
    {cL : Addr}
    (a37 : PySem.W.nsIn K mainGlobals "law" = some (some (.ref f37)))
    (l37 : K.lookup f37 = some ⟨oc37, od37, .func (PySem.W.fnOf "law" "law" (defArgs s_law) (defBody s_law) (defScope s_law) .none kV37 dc37 pm37 an37 (.ref cL) ct37), sl37⟩)
    (c37 : PySem.W.codeIn K (.ref cL) "law" = true)
    (k37 : PySem.W.keepIn K (.ref f37) = true)
    {eL : Value} {ddL : Option Addr} {vsL : Array Value} {slL : Array (Option Value)} {PL : Addr}
    (lCL : K.lookup cL = some ⟨eL, ddL, .fields vsL, slL⟩)
    (vCL : vsL[11]? = some (.ref PL))
    (hCL : PySem.W.codeHdIn K cL PL = true)
    (nCL : K.lookup PL = none)
    (mTL : PL ∈ ts)
    {eS : Value} {ddS : Option Addr} {vsS : Array Value} {slS : Array (Option Value)} {PS : Addr}
    (lCS : K.lookup cS = some ⟨eS, ddS, .fields vsS, slS⟩)
    (vCS : vsS[11]? = some (.ref PS))
    (hCS : PySem.W.codeHdIn K cS PS = true)
    (nCS : K.lookup PS = none)
    (mTS : PS ∈ ts)
    (neT : PL ≠ PS)
    {C_Plans : Addr}
    (xPlansa : PySem.W.nsIn K mainGlobals "Plans" = some (some (.ref C_Plans)))
    (xPlanspg : PySem.W.plainGet K C_Plans Str.empty = true)
    (xPlanshd : PySem.W.hasDictIn K C_Plans = true)
    (xPlanspo : PySem.W.plainOver K C_Plans = true)
    (xPlanssa : PySem.W.findIn K (.ref C_Plans) "__setattr__" = some (some (.builtin "object.__setattr__")))
    (xPlansmk : PySem.W.makesIn K C_Plans = true)
    (xPlanskc : PySem.W.keepIn K (.ref C_Plans) = true)
    (xPlansn_length : PySem.W.findIn K (.ref C_Plans) "length" = some none)
    (xPlansn_by_steps : PySem.W.findIn K (.ref C_Plans) "by_steps" = some none)
    (xPlansn_known : PySem.W.findIn K (.ref C_Plans) "known" = some none)
    {fxPlans_init : Addr} {odxPlans_init anxPlans_init : Option Addr} {slxPlans_init : Array (Option Value)} {ocxPlans_init kVxPlans_init dcxPlans_init pmxPlans_init cdxPlans_init ctxPlans_init : Value}
    (axPlans_init : PySem.W.findIn K (.ref C_Plans) "__init__" = some (some (.ref fxPlans_init)))
    (ixPlans_init : PySem.W.isFn K (.ref fxPlans_init) = true)
    (lxPlans_init : K.lookup fxPlans_init = some ⟨ocxPlans_init, odxPlans_init, .func (PySem.W.fnOf "__init__" "Plans.__init__" (defArgs s_Plans___init__) (defBody s_Plans___init__) (defScope s_Plans___init__) .none kVxPlans_init dcxPlans_init pmxPlans_init anxPlans_init cdxPlans_init ctxPlans_init), slxPlans_init⟩)
    (cxPlans_init : PySem.W.codeIn K cdxPlans_init "Plans.__init__" = true)
    (kxPlans_init : PySem.W.keepIn K (.ref fxPlans_init) = true)
    {fxPlans_cost : Addr} {odxPlans_cost anxPlans_cost : Option Addr} {slxPlans_cost : Array (Option Value)} {ocxPlans_cost kVxPlans_cost dcxPlans_cost pmxPlans_cost cdxPlans_cost ctxPlans_cost : Value}
    (axPlans_cost : PySem.W.findIn K (.ref C_Plans) "cost" = some (some (.ref fxPlans_cost)))
    (ixPlans_cost : PySem.W.isFn K (.ref fxPlans_cost) = true)
    (lxPlans_cost : K.lookup fxPlans_cost = some ⟨ocxPlans_cost, odxPlans_cost, .func (PySem.W.fnOf "cost" "Plans.cost" (defArgs s_Plans_cost) (defBody s_Plans_cost) (defScope s_Plans_cost) .none kVxPlans_cost dcxPlans_cost pmxPlans_cost anxPlans_cost cdxPlans_cost ctxPlans_cost), slxPlans_cost⟩)
    (cxPlans_cost : PySem.W.codeIn K cdxPlans_cost "Plans.cost" = true)
    (kxPlans_cost : PySem.W.keepIn K (.ref fxPlans_cost) = true)
    {fxPlans_parts : Addr} {odxPlans_parts anxPlans_parts : Option Addr} {slxPlans_parts : Array (Option Value)} {ocxPlans_parts kVxPlans_parts dcxPlans_parts pmxPlans_parts cdxPlans_parts ctxPlans_parts : Value}
    (axPlans_parts : PySem.W.findIn K (.ref C_Plans) "parts" = some (some (.ref fxPlans_parts)))
    (ixPlans_parts : PySem.W.isFn K (.ref fxPlans_parts) = true)
    (lxPlans_parts : K.lookup fxPlans_parts = some ⟨ocxPlans_parts, odxPlans_parts, .func (PySem.W.fnOf "parts" "Plans.parts" (defArgs s_Plans_parts) (defBody s_Plans_parts) (defScope s_Plans_parts) .none kVxPlans_parts dcxPlans_parts pmxPlans_parts anxPlans_parts cdxPlans_parts ctxPlans_parts), slxPlans_parts⟩)
    (cxPlans_parts : PySem.W.codeIn K cdxPlans_parts "Plans.parts" = true)
    (kxPlans_parts : PySem.W.keepIn K (.ref fxPlans_parts) = true)
    {fxPlans_with_news : Addr} {odxPlans_with_news anxPlans_with_news : Option Addr} {slxPlans_with_news : Array (Option Value)} {ocxPlans_with_news kVxPlans_with_news dcxPlans_with_news pmxPlans_with_news cdxPlans_with_news ctxPlans_with_news : Value}
    (axPlans_with_news : PySem.W.findIn K (.ref C_Plans) "with_news" = some (some (.ref fxPlans_with_news)))
    (ixPlans_with_news : PySem.W.isFn K (.ref fxPlans_with_news) = true)
    (lxPlans_with_news : K.lookup fxPlans_with_news = some ⟨ocxPlans_with_news, odxPlans_with_news, .func (PySem.W.fnOf "with_news" "Plans.with_news" (defArgs s_Plans_with_news) (defBody s_Plans_with_news) (defScope s_Plans_with_news) .none kVxPlans_with_news dcxPlans_with_news pmxPlans_with_news anxPlans_with_news cdxPlans_with_news ctxPlans_with_news), slxPlans_with_news⟩)
    (cxPlans_with_news : PySem.W.codeIn K cdxPlans_with_news "Plans.with_news" = true)
    (kxPlans_with_news : PySem.W.keepIn K (.ref fxPlans_with_news) = true)
    {fxPlans_table : Addr} {odxPlans_table anxPlans_table : Option Addr} {slxPlans_table : Array (Option Value)} {ocxPlans_table kVxPlans_table dcxPlans_table pmxPlans_table cdxPlans_table ctxPlans_table : Value}
    (axPlans_table : PySem.W.findIn K (.ref C_Plans) "table" = some (some (.ref fxPlans_table)))
    (ixPlans_table : PySem.W.isFn K (.ref fxPlans_table) = true)
    (lxPlans_table : K.lookup fxPlans_table = some ⟨ocxPlans_table, odxPlans_table, .func (PySem.W.fnOf "table" "Plans.table" (defArgs s_Plans_table) (defBody s_Plans_table) (defScope s_Plans_table) .none kVxPlans_table dcxPlans_table pmxPlans_table anxPlans_table cdxPlans_table ctxPlans_table), slxPlans_table⟩)
    (cxPlans_table : PySem.W.codeIn K cdxPlans_table "Plans.table" = true)
    (kxPlans_table : PySem.W.keepIn K (.ref fxPlans_table) = true)
    {fxPlans_best : Addr} {odxPlans_best anxPlans_best : Option Addr} {slxPlans_best : Array (Option Value)} {ocxPlans_best kVxPlans_best dcxPlans_best pmxPlans_best cdxPlans_best ctxPlans_best : Value}
    (axPlans_best : PySem.W.findIn K (.ref C_Plans) "best" = some (some (.ref fxPlans_best)))
    (ixPlans_best : PySem.W.isFn K (.ref fxPlans_best) = true)
    (lxPlans_best : K.lookup fxPlans_best = some ⟨ocxPlans_best, odxPlans_best, .func (PySem.W.fnOf "best" "Plans.best" (defArgs s_Plans_best) (defBody s_Plans_best) (defScope s_Plans_best) .none kVxPlans_best dcxPlans_best pmxPlans_best anxPlans_best cdxPlans_best ctxPlans_best), slxPlans_best⟩)
    (cxPlans_best : PySem.W.codeIn K cdxPlans_best "Plans.best" = true)
    (kxPlans_best : PySem.W.keepIn K (.ref fxPlans_best) = true)
    {fxPlans_first_move : Addr} {odxPlans_first_move anxPlans_first_move : Option Addr} {slxPlans_first_move : Array (Option Value)} {ocxPlans_first_move kVxPlans_first_move dcxPlans_first_move pmxPlans_first_move cdxPlans_first_move ctxPlans_first_move : Value}
    (axPlans_first_move : PySem.W.findIn K (.ref C_Plans) "first_move" = some (some (.ref fxPlans_first_move)))
    (ixPlans_first_move : PySem.W.isFn K (.ref fxPlans_first_move) = true)
    (lxPlans_first_move : K.lookup fxPlans_first_move = some ⟨ocxPlans_first_move, odxPlans_first_move, .func (PySem.W.fnOf "first_move" "Plans.first_move" (defArgs s_Plans_first_move) (defBody s_Plans_first_move) (defScope s_Plans_first_move) .none kVxPlans_first_move dcxPlans_first_move pmxPlans_first_move anxPlans_first_move cdxPlans_first_move ctxPlans_first_move), slxPlans_first_move⟩)
    (cxPlans_first_move : PySem.W.codeIn K cdxPlans_first_move "Plans.first_move" = true)
    (kxPlans_first_move : PySem.W.keepIn K (.ref fxPlans_first_move) = true)
    {C_Search : Addr}
    (xSearcha : PySem.W.nsIn K mainGlobals "Search" = some (some (.ref C_Search)))
    (xSearchpg : PySem.W.plainGet K C_Search Str.empty = true)
    (xSearchhd : PySem.W.hasDictIn K C_Search = true)
    (xSearchpo : PySem.W.plainOver K C_Search = true)
    (xSearchsa : PySem.W.findIn K (.ref C_Search) "__setattr__" = some (some (.builtin "object.__setattr__")))
    (xSearchmk : PySem.W.makesIn K C_Search = true)
    (xSearchkc : PySem.W.keepIn K (.ref C_Search) = true)
    (xSearchn_length : PySem.W.findIn K (.ref C_Search) "length" = some none)
    (xSearchn_past : PySem.W.findIn K (.ref C_Search) "past" = some none)
    {fxSearch_init : Addr} {odxSearch_init anxSearch_init : Option Addr} {slxSearch_init : Array (Option Value)} {ocxSearch_init kVxSearch_init dcxSearch_init pmxSearch_init cdxSearch_init ctxSearch_init : Value}
    (axSearch_init : PySem.W.findIn K (.ref C_Search) "__init__" = some (some (.ref fxSearch_init)))
    (ixSearch_init : PySem.W.isFn K (.ref fxSearch_init) = true)
    (lxSearch_init : K.lookup fxSearch_init = some ⟨ocxSearch_init, odxSearch_init, .func (PySem.W.fnOf "__init__" "Search.__init__" (defArgs s_Search___init__) (defBody s_Search___init__) (defScope s_Search___init__) .none kVxSearch_init dcxSearch_init pmxSearch_init anxSearch_init cdxSearch_init ctxSearch_init), slxSearch_init⟩)
    (cxSearch_init : PySem.W.codeIn K cdxSearch_init "Search.__init__" = true)
    (kxSearch_init : PySem.W.keepIn K (.ref fxSearch_init) = true)
    {C_NoLength C_NoPlace C_NotNow C_NoStands C_NoAnswers C_NoStretch C_NoAnswer C_Never C_NothingLeft C_TooLong C_SeekError : Addr}
    (gNoLength : PySem.W.nsIn K mainGlobals "NoLength" = some (some (.ref C_NoLength)))
    (gNoPlace : PySem.W.nsIn K mainGlobals "NoPlace" = some (some (.ref C_NoPlace)))
    (gNotNow : PySem.W.nsIn K mainGlobals "NotNow" = some (some (.ref C_NotNow)))
    (gNoStands : PySem.W.nsIn K mainGlobals "NoStands" = some (some (.ref C_NoStands)))
    (gNoAnswers : PySem.W.nsIn K mainGlobals "NoAnswers" = some (some (.ref C_NoAnswers)))
    (gNoStretch : PySem.W.nsIn K mainGlobals "NoStretch" = some (some (.ref C_NoStretch)))
    (gNoAnswer : PySem.W.nsIn K mainGlobals "NoAnswer" = some (some (.ref C_NoAnswer)))
    (gNever : PySem.W.nsIn K mainGlobals "Never" = some (some (.ref C_Never)))
    (gNothingLeft : PySem.W.nsIn K mainGlobals "NothingLeft" = some (some (.ref C_NothingLeft)))
    (gTooLong : PySem.W.nsIn K mainGlobals "TooLong" = some (some (.ref C_TooLong)))
    (gSeekError : PySem.W.nsIn K mainGlobals "SeekError" = some (some (.ref C_SeekError)))
    (is2 : PySem.W.specialIn K (.builtin "object.__class__") "__get__" = some (some (.builtin "getset_descriptor.__get__")))
    (is3 : PySem.W.takesIn K (.builtin "object.__class__") = some true)
    (e1NoLength : PySem.W.excIn K C_NoLength [.type "ValueError", .type "Exception", .type "BaseException", .type "object"] "ValueError.__new__" = true)
    (e2NoLength : PySem.W.keepIn K (.ref C_NoLength) = true)
    (e3NoLength : PySem.W.subIn K (.ref C_NoLength) (.type "BaseException") = some true)
    (e4NoLength : PySem.W.typeIn K (.ref C_NoLength) = some (.type "type"))
    (x1NoLength : PySem.W.findIn K (.ref C_NoLength) "__getattribute__" = some (some (.builtin "BaseException.__getattribute__")))
    (x2NoLength : PySem.W.findIn K (.ref C_NoLength) "__getattr__" = some none)
    (x4NoLength : PySem.W.hasDictIn K C_NoLength = true)
    (x5NoLength : PySem.W.findIn K (.ref C_NoLength) "__class__" = some (some (.builtin "object.__class__")))
    (x8NoLength : PySem.W.mroIn K C_NoLength (.type "object") = some true)
    (r3NoLength : PySem.W.kitOne K (.ref C_NoLength) (.type "ValueError") = some true)
    (r1NoLength : PySem.W.exmOne K (.ref C_NoLength) (.ref C_TooLong) = some false)
    (r2NoLength : PySem.W.exmOne K (.ref C_NoLength) (.ref C_SeekError) = some true)
    (r4NoLength : rowB K C_NoLength [C_NoLength, C_NoPlace, C_NotNow, C_NoStands, C_NoAnswers, C_NoStretch, C_NoAnswer, C_Never, C_NothingLeft] 0 = true)
    (e1NoPlace : PySem.W.excIn K C_NoPlace [.type "ValueError", .type "Exception", .type "BaseException", .type "object"] "ValueError.__new__" = true)
    (e2NoPlace : PySem.W.keepIn K (.ref C_NoPlace) = true)
    (e3NoPlace : PySem.W.subIn K (.ref C_NoPlace) (.type "BaseException") = some true)
    (e4NoPlace : PySem.W.typeIn K (.ref C_NoPlace) = some (.type "type"))
    (x1NoPlace : PySem.W.findIn K (.ref C_NoPlace) "__getattribute__" = some (some (.builtin "BaseException.__getattribute__")))
    (x2NoPlace : PySem.W.findIn K (.ref C_NoPlace) "__getattr__" = some none)
    (x4NoPlace : PySem.W.hasDictIn K C_NoPlace = true)
    (x5NoPlace : PySem.W.findIn K (.ref C_NoPlace) "__class__" = some (some (.builtin "object.__class__")))
    (x8NoPlace : PySem.W.mroIn K C_NoPlace (.type "object") = some true)
    (r3NoPlace : PySem.W.kitOne K (.ref C_NoPlace) (.type "ValueError") = some true)
    (r1NoPlace : PySem.W.exmOne K (.ref C_NoPlace) (.ref C_TooLong) = some false)
    (r2NoPlace : PySem.W.exmOne K (.ref C_NoPlace) (.ref C_SeekError) = some true)
    (r4NoPlace : rowB K C_NoPlace [C_NoLength, C_NoPlace, C_NotNow, C_NoStands, C_NoAnswers, C_NoStretch, C_NoAnswer, C_Never, C_NothingLeft] 1 = true)
    (e1NoStands : PySem.W.excIn K C_NoStands [.type "ValueError", .type "Exception", .type "BaseException", .type "object"] "ValueError.__new__" = true)
    (e2NoStands : PySem.W.keepIn K (.ref C_NoStands) = true)
    (e3NoStands : PySem.W.subIn K (.ref C_NoStands) (.type "BaseException") = some true)
    (e4NoStands : PySem.W.typeIn K (.ref C_NoStands) = some (.type "type"))
    (x1NoStands : PySem.W.findIn K (.ref C_NoStands) "__getattribute__" = some (some (.builtin "BaseException.__getattribute__")))
    (x2NoStands : PySem.W.findIn K (.ref C_NoStands) "__getattr__" = some none)
    (x4NoStands : PySem.W.hasDictIn K C_NoStands = true)
    (x5NoStands : PySem.W.findIn K (.ref C_NoStands) "__class__" = some (some (.builtin "object.__class__")))
    (x8NoStands : PySem.W.mroIn K C_NoStands (.type "object") = some true)
    (r3NoStands : PySem.W.kitOne K (.ref C_NoStands) (.type "ValueError") = some true)
    (r1NoStands : PySem.W.exmOne K (.ref C_NoStands) (.ref C_TooLong) = some false)
    (r2NoStands : PySem.W.exmOne K (.ref C_NoStands) (.ref C_SeekError) = some true)
    (r4NoStands : rowB K C_NoStands [C_NoLength, C_NoPlace, C_NotNow, C_NoStands, C_NoAnswers, C_NoStretch, C_NoAnswer, C_Never, C_NothingLeft] 3 = true)
    (e1NoAnswers : PySem.W.excIn K C_NoAnswers [.type "ValueError", .type "Exception", .type "BaseException", .type "object"] "ValueError.__new__" = true)
    (e2NoAnswers : PySem.W.keepIn K (.ref C_NoAnswers) = true)
    (e3NoAnswers : PySem.W.subIn K (.ref C_NoAnswers) (.type "BaseException") = some true)
    (e4NoAnswers : PySem.W.typeIn K (.ref C_NoAnswers) = some (.type "type"))
    (x1NoAnswers : PySem.W.findIn K (.ref C_NoAnswers) "__getattribute__" = some (some (.builtin "BaseException.__getattribute__")))
    (x2NoAnswers : PySem.W.findIn K (.ref C_NoAnswers) "__getattr__" = some none)
    (x4NoAnswers : PySem.W.hasDictIn K C_NoAnswers = true)
    (x5NoAnswers : PySem.W.findIn K (.ref C_NoAnswers) "__class__" = some (some (.builtin "object.__class__")))
    (x8NoAnswers : PySem.W.mroIn K C_NoAnswers (.type "object") = some true)
    (r3NoAnswers : PySem.W.kitOne K (.ref C_NoAnswers) (.type "ValueError") = some true)
    (r1NoAnswers : PySem.W.exmOne K (.ref C_NoAnswers) (.ref C_TooLong) = some false)
    (r2NoAnswers : PySem.W.exmOne K (.ref C_NoAnswers) (.ref C_SeekError) = some true)
    (r4NoAnswers : rowB K C_NoAnswers [C_NoLength, C_NoPlace, C_NotNow, C_NoStands, C_NoAnswers, C_NoStretch, C_NoAnswer, C_Never, C_NothingLeft] 4 = true)
    (e1NoStretch : PySem.W.excIn K C_NoStretch [.type "ValueError", .type "Exception", .type "BaseException", .type "object"] "ValueError.__new__" = true)
    (e2NoStretch : PySem.W.keepIn K (.ref C_NoStretch) = true)
    (e3NoStretch : PySem.W.subIn K (.ref C_NoStretch) (.type "BaseException") = some true)
    (e4NoStretch : PySem.W.typeIn K (.ref C_NoStretch) = some (.type "type"))
    (x1NoStretch : PySem.W.findIn K (.ref C_NoStretch) "__getattribute__" = some (some (.builtin "BaseException.__getattribute__")))
    (x2NoStretch : PySem.W.findIn K (.ref C_NoStretch) "__getattr__" = some none)
    (x4NoStretch : PySem.W.hasDictIn K C_NoStretch = true)
    (x5NoStretch : PySem.W.findIn K (.ref C_NoStretch) "__class__" = some (some (.builtin "object.__class__")))
    (x8NoStretch : PySem.W.mroIn K C_NoStretch (.type "object") = some true)
    (r3NoStretch : PySem.W.kitOne K (.ref C_NoStretch) (.type "ValueError") = some true)
    (r1NoStretch : PySem.W.exmOne K (.ref C_NoStretch) (.ref C_TooLong) = some false)
    (r2NoStretch : PySem.W.exmOne K (.ref C_NoStretch) (.ref C_SeekError) = some true)
    (r4NoStretch : rowB K C_NoStretch [C_NoLength, C_NoPlace, C_NotNow, C_NoStands, C_NoAnswers, C_NoStretch, C_NoAnswer, C_Never, C_NothingLeft] 5 = true)
    (e2TooLong : PySem.W.keepIn K (.ref C_TooLong) = true)
    (e3TooLong : PySem.W.subIn K (.ref C_TooLong) (.type "BaseException") = some true)
    (e4TooLong : PySem.W.typeIn K (.ref C_TooLong) = some (.type "type"))
    (x1TooLong : PySem.W.findIn K (.ref C_TooLong) "__getattribute__" = some (some (.builtin "BaseException.__getattribute__")))
    (x2TooLong : PySem.W.findIn K (.ref C_TooLong) "__getattr__" = some none)
    (x4TooLong : PySem.W.hasDictIn K C_TooLong = true)
    (x5TooLong : PySem.W.findIn K (.ref C_TooLong) "__class__" = some (some (.builtin "object.__class__")))
    (x8TooLong : PySem.W.mroIn K C_TooLong (.type "object") = some true)
    (r3TooLong : PySem.W.kitOne K (.ref C_TooLong) (.type "ValueError") = some true)
    {nmQ qQ : Str} {NQ : Addr} {bsQ bmQ : List Value} {snQ : List Str} {subQ : List Value} {abQ : Bool} {colQ : Option Bool} {ddQ : Option Addr} {k0Q k1Q k2Q k3Q k5Q : Option Value}
    (q0 : K.lookup C_TooLong = some (excClassObj nmQ qQ C_TooLong NQ bsQ bmQ true snQ subQ abQ colQ ddQ k0Q k1Q k2Q k3Q k5Q "ValueError.__new__"))
    (q1 : PySem.HandSPX.refsVE bmQ = true)
    (q2 : PySem.W.findIn K (.ref C_TooLong) "__setattr__" = some (some (.builtin "object.__setattr__")))
    (q3 : PySem.W.findIn K (.ref C_TooLong) "most" = some none)
    (r1TooLong : PySem.W.exmOne K (.ref C_TooLong) (.ref C_TooLong) = some true)
    {fTI : Addr} {odTI anTI : Option Addr} {slTI : Array (Option Value)} {ocTI kVTI dcTI pmTI cdTI ctTI : Value}
    (q4 : PySem.W.findIn K (.ref C_TooLong) "__init__" = some (some (.ref fTI)))
    (q5 : PySem.W.typeIn K (.ref fTI) = some (.type "function"))
    (q6 : K.lookup fTI = some ⟨ocTI, odTI, .func (PySem.W.fnOf "__init__" "TooLong.__init__" (defArgs s_TooLong___init__) (defBody s_TooLong___init__) (defScope s_TooLong___init__) .none kVTI dcTI pmTI anTI cdTI ctTI), slTI⟩)
    (q7 : PySem.W.codeIn K cdTI "TooLong.__init__" = true)
    (q8 : PySem.W.keepIn K (.ref fTI) = true)
    (q9 : PySem.W.specialIn K (.ref C_SeekError) "__getattribute__" = some (some (.builtin "type.__getattribute__")))
    (qA : PySem.W.typeIn K (.ref C_SeekError) = some (.type "type"))
    (qB : PySem.W.readsIn K C_SeekError (.type "type") = true)
    (qC : PySem.W.findCls K (.ref C_SeekError) (.type "type") "__init__" = some (.val (.builtin "ValueError.__init__")))
    (z_abs : PySem.W.nsIn K mainGlobals "abs" = some none)
    (z_all : PySem.W.nsIn K mainGlobals "all" = some none)
    (z_enumerate : PySem.W.nsIn K mainGlobals "enumerate" = some none)
    (z_int : PySem.W.nsIn K mainGlobals "int" = some none)
    (z_isinstance : PySem.W.nsIn K mainGlobals "isinstance" = some none)
    (z_len : PySem.W.nsIn K mainGlobals "len" = some none)
    (z_list : PySem.W.nsIn K mainGlobals "list" = some none)
    (z_max : PySem.W.nsIn K mainGlobals "max" = some none)
    (z_min : PySem.W.nsIn K mainGlobals "min" = some none)
    (z_range : PySem.W.nsIn K mainGlobals "range" = some none)
    (z_set : PySem.W.nsIn K mainGlobals "set" = some none)
    (z_sorted : PySem.W.nsIn K mainGlobals "sorted" = some none)
    (z_str : PySem.W.nsIn K mainGlobals "str" = some none)
    (z_tuple : PySem.W.nsIn K mainGlobals "tuple" = some none)
    (z_zip : PySem.W.nsIn K mainGlobals "zip" = some none)
    (z_bool : PySem.W.nsIn K mainGlobals "bool" = some none)
    (z_repr : PySem.W.nsIn K mainGlobals "repr" = some none)
    (z_ValueError : PySem.W.nsIn K mainGlobals "ValueError" = some none)
    {aW : Addr} {oW : Obj} {tM : Tok}
    (aWd : PySem.W.nsIn K mainGlobals "WORDS" = some (some (.ref aW)))
    (lWd : K.lookup aW = some oW)
    (qWd : wordsObj oW = true)
    (aMo : PySem.W.nsIn K mainGlobals "MOST" = some (some (.int 16 tM)))
    : LamX.LawAtS l w K CX0 63 63 "script" mg fa h := by
  have e := hfa.symm.trans (PySem.W.mg_of X G a37)
  cases e
  have B : Bl mg := ⟨PySem.W.mg_none_of X G z_abs, PySem.W.mg_none_of X G z_all, PySem.W.mg_none_of X G z_enumerate, PySem.W.mg_none_of X G z_int, PySem.W.mg_none_of X G z_isinstance, PySem.W.mg_none_of X G z_len, PySem.W.mg_none_of X G z_list, PySem.W.mg_none_of X G z_max, PySem.W.mg_none_of X G z_min, PySem.W.mg_none_of X G z_range, PySem.W.mg_none_of X G z_set, PySem.W.mg_none_of X G z_sorted, PySem.W.mg_none_of X G z_str, PySem.W.mg_none_of X G z_tuple, PySem.W.mg_none_of X G z_zip, PySem.W.mg_none_of X G z_bool, PySem.W.mg_none_of X G z_repr, PySem.W.mg_none_of X G z_ValueError⟩
  have gW := PySem.W.mg_of X G aWd
  have qW := wordsAt_of lWd qWd
  have gM := PySem.W.mg_of X G aMo
  have E_NoLength : ErrC K mg "NoLength" C_NoLength := ⟨PySem.W.mg_of X G gNoLength, e1NoLength, e2NoLength, e3NoLength, e4NoLength⟩
  have F_NoLength : RefE K C_TooLong C_SeekError [C_NoLength, C_NoPlace, C_NotNow, C_NoStands, C_NoAnswers, C_NoStretch, C_NoAnswer, C_Never, C_NothingLeft] C_NoLength "NoLength" := ⟨⟨x1NoLength, x2NoLength, e3NoLength, x4NoLength, x5NoLength, is2, is3, x8NoLength⟩, r1NoLength, r2NoLength, r3NoLength, 0, rfl, rowB_at r4NoLength⟩
  have E_NoPlace : ErrC K mg "NoPlace" C_NoPlace := ⟨PySem.W.mg_of X G gNoPlace, e1NoPlace, e2NoPlace, e3NoPlace, e4NoPlace⟩
  have F_NoPlace : RefE K C_TooLong C_SeekError [C_NoLength, C_NoPlace, C_NotNow, C_NoStands, C_NoAnswers, C_NoStretch, C_NoAnswer, C_Never, C_NothingLeft] C_NoPlace "NoPlace" := ⟨⟨x1NoPlace, x2NoPlace, e3NoPlace, x4NoPlace, x5NoPlace, is2, is3, x8NoPlace⟩, r1NoPlace, r2NoPlace, r3NoPlace, 1, rfl, rowB_at r4NoPlace⟩
  have E_NoStands : ErrC K mg "NoStands" C_NoStands := ⟨PySem.W.mg_of X G gNoStands, e1NoStands, e2NoStands, e3NoStands, e4NoStands⟩
  have F_NoStands : RefE K C_TooLong C_SeekError [C_NoLength, C_NoPlace, C_NotNow, C_NoStands, C_NoAnswers, C_NoStretch, C_NoAnswer, C_Never, C_NothingLeft] C_NoStands "NoStands" := ⟨⟨x1NoStands, x2NoStands, e3NoStands, x4NoStands, x5NoStands, is2, is3, x8NoStands⟩, r1NoStands, r2NoStands, r3NoStands, 3, rfl, rowB_at r4NoStands⟩
  have E_NoAnswers : ErrC K mg "NoAnswers" C_NoAnswers := ⟨PySem.W.mg_of X G gNoAnswers, e1NoAnswers, e2NoAnswers, e3NoAnswers, e4NoAnswers⟩
  have F_NoAnswers : RefE K C_TooLong C_SeekError [C_NoLength, C_NoPlace, C_NotNow, C_NoStands, C_NoAnswers, C_NoStretch, C_NoAnswer, C_Never, C_NothingLeft] C_NoAnswers "NoAnswers" := ⟨⟨x1NoAnswers, x2NoAnswers, e3NoAnswers, x4NoAnswers, x5NoAnswers, is2, is3, x8NoAnswers⟩, r1NoAnswers, r2NoAnswers, r3NoAnswers, 4, rfl, rowB_at r4NoAnswers⟩
  have E_NoStretch : ErrC K mg "NoStretch" C_NoStretch := ⟨PySem.W.mg_of X G gNoStretch, e1NoStretch, e2NoStretch, e3NoStretch, e4NoStretch⟩
  have F_NoStretch : RefE K C_TooLong C_SeekError [C_NoLength, C_NoPlace, C_NotNow, C_NoStands, C_NoAnswers, C_NoStretch, C_NoAnswer, C_Never, C_NothingLeft] C_NoStretch "NoStretch" := ⟨⟨x1NoStretch, x2NoStretch, e3NoStretch, x4NoStretch, x5NoStretch, is2, is3, x8NoStretch⟩, r1NoStretch, r2NoStretch, r3NoStretch, 5, rfl, rowB_at r4NoStretch⟩
  have YE : ErrsC K mg (ceOf C_NoLength C_NoPlace C_NoStands C_NoAnswers C_NoStretch) := fun x => match x with | .length => E_NoLength | .place => E_NoPlace | .stands => E_NoStands | .answers => E_NoAnswers | .stretch => E_NoStretch
  have hRef : ∀ x : Er, RefE K C_TooLong C_SeekError [C_NoLength, C_NoPlace, C_NotNow, C_NoStands, C_NoAnswers, C_NoStretch, C_NoAnswer, C_Never, C_NothingLeft] ((ceOf C_NoLength C_NoPlace C_NoStands C_NoAnswers C_NoStretch) x) x.nm := fun x => match x with | .length => F_NoLength | .place => F_NoPlace | .stands => F_NoStands | .answers => F_NoAnswers | .stretch => F_NoStretch
  have xcT : ExcC K C_TooLong := ⟨x1TooLong, x2TooLong, e3TooLong, x4TooLong, x5TooLong, is2, is3, x8TooLong⟩
  have xfT : XfC K C_TooLong := ⟨x1TooLong, x2TooLong, e3TooLong, x4TooLong⟩
  have rT : RefT K C_TooLong := ⟨xcT, xfT, q3, r1TooLong, r3TooLong⟩
  have oT : OexC K C_TooLong := ⟨⟨_, _, _, _, _, _, _, _, _, _, _, _, _, _, _, q0, q1⟩, q2, e3TooLong, e4TooLong, e2TooLong⟩
  have YT : XfE K mg "TooLong" C_TooLong "most" := ⟨PySem.W.mg_of X G gTooLong, oT, q3, xfT⟩
  refine ⟨PySem.W.fnOf "law" "law" (defArgs s_law) (defBody s_law) (defScope s_law) .none kV37 dc37 pm37 an37 (.ref cL) ct37, [(cL, PL), (cS, PS)], spLaw2 K PL PS, fun p hp => ?_, fun p hp => ?_, fun p hp => ?_, fun s v => .of_eq rfl, fun H a ns hl _ hT hS => ⟨a, ns, rfl, hS, hT (cL, PL) List.mem_cons_self, hT (cS, PS) (List.mem_cons_of_mem _ List.mem_cons_self), hl, fun _ => rfl⟩, fun base _ _ TBs => ?_⟩
  · rcases List.mem_cons.mp hp with z | z
    · rw [z]; exact tabs _ mTL
    · rw [List.mem_singleton.mp z]; exact tabs _ mTS
  · rcases List.mem_cons.mp hp with z | z
    · rw [z]; exact nCL
    · rw [List.mem_singleton.mp z]; exact nCS
  · rcases List.mem_cons.mp hp with z | z
    · rw [z]; exact PySem.W.codeHd_of_K X hCL
    · rw [List.mem_singleton.mp z]; exact PySem.W.codeHd_of_K X hCS
  have FTI := fun_mk (st := s_TooLong___init__) q6 q7 q8
  have YI : XfI l.prog w K mg base C_TooLong "most" 1 := ⟨fTI, _, ["self", "most"], ok_TooLong_init FTI (PySem.W.mg_of X G gSeekError) q9 qA qB qC oT q3, q4, q5, FTI.binds fun _ _ _ _ _ _ us hl => match us, hl with | [_, _], _ => rfl⟩
  have H_is_within : Has l.prog w K mg base 1 "is_within" ["thing", "low", "high"] (spP K R_is_within) := ok_is_within ⟨f0, _, fun_mk (st := s_is_within) l0 c0 k0, PySem.W.mg_of X G a0⟩ B
  have H_need_length : Has l.prog w K mg base 2 "need_length" ["length"] (spP K R_need_length) := ok_need_length ⟨f1, _, fun_mk (st := s_need_length) l1 c1 k1, PySem.W.mg_of X G a1⟩ B H_is_within
  have HX_need_length := okX_need_length (P := l.prog) (w := w) (base := base) B YE ⟨f1, _, fun_mk (st := s_need_length) l1 c1 k1, PySem.W.mg_of X G a1⟩ H_is_within
  have H_need_short : Has l.prog w K mg base 3 "need_short" ["length", "most"] (spP K R_need_short) := ok_need_short ⟨f2, _, fun_mk (st := s_need_short) l2 c2 k2, PySem.W.mg_of X G a2⟩ B H_need_length
  have HX_need_short := okX_need_short (P := l.prog) (w := w) (base := base) B YE ⟨f2, _, fun_mk (st := s_need_short) l2 c2 k2, PySem.W.mg_of X G a2⟩ HX_need_length
  have HXX_need_short := okXX_need_short (P := l.prog) (w := w) (base := base) ⟨f2, _, fun_mk (st := s_need_short) l2 c2 k2, PySem.W.mg_of X G a2⟩ B YT YI H_need_length
  have H_need_place : Has l.prog w K mg base 2 "need_place" ["length", "place"] (spP K R_need_place) := ok_need_place ⟨f3, _, fun_mk (st := s_need_place) l3 c3 k3, PySem.W.mg_of X G a3⟩ B H_is_within
  have HX_need_place := okX_need_place (P := l.prog) (w := w) (base := base) B YE ⟨f3, _, fun_mk (st := s_need_place) l3 c3 k3, PySem.W.mg_of X G a3⟩ H_is_within
  have H_need_stands : Has l.prog w K mg base 2 "need_stands" ["length", "stands"] (spP K R_need_stands) := ok_need_stands ⟨f4, _, fun_mk (st := s_need_stands) l4 c4 k4, PySem.W.mg_of X G a4⟩ B H_is_within
  have HX_need_stands := okX_need_stands (P := l.prog) (w := w) (base := base) B YE ⟨f4, _, fun_mk (st := s_need_stands) l4 c4 k4, PySem.W.mg_of X G a4⟩ H_is_within
  have H_is_answer : Has l.prog w K mg base 1 "is_answer" ["thing"] (spP K R_is_answer) := ok_is_answer ⟨f5, _, fun_mk (st := s_is_answer) l5 c5 k5, PySem.W.mg_of X G a5⟩ B gW qW
  have H_need_answers : Has l.prog w K mg base 2 "need_answers" ["stands", "answers"] (spP K R_need_answers) := ok_need_answers ⟨f6, _, fun_mk (st := s_need_answers) l6 c6 k6, PySem.W.mg_of X G a6⟩ B H_is_answer
  have HX_need_answers := okX_need_answers (P := l.prog) (w := w) (base := base) B YE ⟨f6, _, fun_mk (st := s_need_answers) l6 c6 k6, PySem.W.mg_of X G a6⟩ H_is_answer
  have H_word_for : Has l.prog w K mg base 1 "word_for" ["far", "near"] (spP K R_word_for) := ok_word_for ⟨f7, _, fun_mk (st := s_word_for) l7 c7 k7, PySem.W.mg_of X G a7⟩ B
  have H_answer : Has l.prog w K mg base 2 "answer" ["thing", "before", "now"] (spP K R_answer) := ok_answer ⟨f8, _, fun_mk (st := s_answer) l8 c8 k8, PySem.W.mg_of X G a8⟩ B H_word_for
  have H_all_answers : Has l.prog w K mg base 3 "all_answers" ["thing", "stands"] (spN K R_all_answers) := ok_all_answers ⟨f9, _, fun_mk (st := s_all_answers) l9 c9 k9, PySem.W.mg_of X G a9⟩ B H_answer
  have H_answers_to : Has l.prog w K mg base 4 "answers_to" ["length", "thing", "stands"] (spN K R_answers_to) := ok_answers_to ⟨f10, _, fun_mk (st := s_answers_to) l10 c10 k10, PySem.W.mg_of X G a10⟩ B H_need_length H_need_place H_need_stands H_all_answers
  have HX_answers_to := okX_answers_to (P := l.prog) (w := w) (base := base) B YE ⟨f10, _, fun_mk (st := s_answers_to) l10 c10 k10, PySem.W.mg_of X G a10⟩ HX_need_length H_need_length HX_need_place H_need_place HX_need_stands
  have H_places_for : Has l.prog w K mg base 4 "places_for" ["length", "stands", "answers"] (spP K R_places_for) := ok_places_for ⟨f11, _, fun_mk (st := s_places_for) l11 c11 k11, PySem.W.mg_of X G a11⟩ B H_all_answers
  have H_can_lie : Has l.prog w K mg base 5 "can_lie" ["length", "stands", "answers"] (spP K R_can_lie) := ok_can_lie ⟨f12, _, fun_mk (st := s_can_lie) l12 c12 k12, PySem.W.mg_of X G a12⟩ B H_need_length H_need_stands H_need_answers H_places_for
  have HX_can_lie := okX_can_lie (P := l.prog) (w := w) (base := base) B YE ⟨f12, _, fun_mk (st := s_can_lie) l12 c12 k12, PySem.W.mg_of X G a12⟩ HX_need_length H_need_length HX_need_stands H_need_stands HX_need_answers
  have H_fewest_wrong : Has l.prog w K mg base 4 "fewest_wrong" ["length", "stands", "answers"] (spP K R_fewest_wrong) := ok_fewest_wrong ⟨f13, _, fun_mk (st := s_fewest_wrong) l13 c13 k13, PySem.W.mg_of X G a13⟩ B H_need_length H_need_stands H_need_answers H_all_answers
  have HX_fewest_wrong := okX_fewest_wrong (P := l.prog) (w := w) (base := base) B YE ⟨f13, _, fun_mk (st := s_fewest_wrong) l13 c13 k13, PySem.W.mg_of X G a13⟩ HX_need_length H_need_length HX_need_stands H_need_stands HX_need_answers
  have H_rows_of : Has l.prog w K mg base 4 "rows_of" ["length", "stands"] (spN K R_rows_of) := ok_rows_of ⟨f14, _, fun_mk (st := s_rows_of) l14 c14 k14, PySem.W.mg_of X G a14⟩ B H_all_answers
  have H_how_many : Has l.prog w K mg base 5 "how_many" ["length", "stands"] (spP K R_how_many) := ok_how_many ⟨f15, _, fun_mk (st := s_how_many) l15 c15 k15, PySem.W.mg_of X G a15⟩ B H_need_length H_need_stands H_rows_of
  have HX_how_many := okX_how_many (P := l.prog) (w := w) (base := base) B YE ⟨f15, _, fun_mk (st := s_how_many) l15 c15 k15, PySem.W.mg_of X G a15⟩ HX_need_length H_need_length HX_need_stands
  have H_alike : Has l.prog w K mg base 5 "alike" ["length", "stands"] (spP K R_alike) := ok_alike ⟨f16, _, fun_mk (st := s_alike) l16 c16 k16, PySem.W.mg_of X G a16⟩ B H_need_length H_need_stands H_rows_of
  have HX_alike := okX_alike (P := l.prog) (w := w) (base := base) B YE ⟨f16, _, fun_mk (st := s_alike) l16 c16 k16, PySem.W.mg_of X G a16⟩ HX_need_length H_need_length HX_need_stands
  have H_fewest_ahead : Has l.prog w K mg base 3 "fewest_ahead" ["length"] (spP K R_fewest_ahead) := ok_fewest_ahead ⟨f17, _, fun_mk (st := s_fewest_ahead) l17 c17 k17, PySem.W.mg_of X G a17⟩ B H_need_length
  have HX_fewest_ahead := okX_fewest_ahead (P := l.prog) (w := w) (base := base) B YE ⟨f17, _, fun_mk (st := s_fewest_ahead) l17 c17 k17, PySem.W.mg_of X G a17⟩ HX_need_length
  have H_stands_ahead : Has l.prog w K mg base 3 "stands_ahead" ["length"] (spP K R_stands_ahead) := ok_stands_ahead ⟨f18, _, fun_mk (st := s_stands_ahead) l18 c18 k18, PySem.W.mg_of X G a18⟩ B H_need_length
  have HX_stands_ahead := okX_stands_ahead (P := l.prog) (w := w) (base := base) B YE ⟨f18, _, fun_mk (st := s_stands_ahead) l18 c18 k18, PySem.W.mg_of X G a18⟩ HX_need_length
  have H_need_asked : Has l.prog w K mg base 4 "need_asked" ["length", "stretch", "place"] (spP K R_need_asked) := ok_need_asked ⟨f19, _, fun_mk (st := s_need_asked) l19 c19 k19, PySem.W.mg_of X G a19⟩ B gM H_need_short H_is_within H_need_place
  have HX_need_asked := okX_need_asked (P := l.prog) (w := w) (base := base) B YE ⟨f19, _, fun_mk (st := s_need_asked) l19 c19 k19, PySem.W.mg_of X G a19⟩ gM HX_need_short H_need_short H_is_within HX_need_place
  have HXX_need_asked := okXX_need_asked (P := l.prog) (w := w) (base := base) ⟨f19, _, fun_mk (st := s_need_asked) l19 c19 k19, PySem.W.mg_of X G a19⟩ B YT YI gM HXX_need_short
  have Y_Plans : PlansC K mg C_Plans := ⟨⟨xPlanspg, xPlanshd, xPlanspo, xPlanssa⟩, xPlansn_length, xPlansn_by_steps, xPlansn_known, PySem.W.mg_of X G xPlansa⟩
  have T_Plans___init__ : RawI K C_Plans "Plans.__init__" s_Plans___init__ := ⟨fxPlans_init, _, fun_mk (st := s_Plans___init__) lxPlans_init cxPlans_init kxPlans_init, ⟨xPlansmk, axPlans_init, ixPlans_init, xPlanskc⟩⟩
  have T_Plans_cost : RawM K C_Plans "cost" "Plans.cost" s_Plans_cost := ⟨fxPlans_cost, _, fun_mk (st := s_Plans_cost) lxPlans_cost cxPlans_cost kxPlans_cost, ⟨axPlans_cost, ixPlans_cost, kxPlans_cost⟩⟩
  have T_Plans_parts : RawM K C_Plans "parts" "Plans.parts" s_Plans_parts := ⟨fxPlans_parts, _, fun_mk (st := s_Plans_parts) lxPlans_parts cxPlans_parts kxPlans_parts, ⟨axPlans_parts, ixPlans_parts, kxPlans_parts⟩⟩
  have T_Plans_with_news : RawM K C_Plans "with_news" "Plans.with_news" s_Plans_with_news := ⟨fxPlans_with_news, _, fun_mk (st := s_Plans_with_news) lxPlans_with_news cxPlans_with_news kxPlans_with_news, ⟨axPlans_with_news, ixPlans_with_news, kxPlans_with_news⟩⟩
  have T_Plans_table : RawM K C_Plans "table" "Plans.table" s_Plans_table := ⟨fxPlans_table, _, fun_mk (st := s_Plans_table) lxPlans_table cxPlans_table kxPlans_table, ⟨axPlans_table, ixPlans_table, kxPlans_table⟩⟩
  have T_Plans_best : RawM K C_Plans "best" "Plans.best" s_Plans_best := ⟨fxPlans_best, _, fun_mk (st := s_Plans_best) lxPlans_best cxPlans_best kxPlans_best, ⟨axPlans_best, ixPlans_best, kxPlans_best⟩⟩
  have T_Plans_first_move : RawM K C_Plans "first_move" "Plans.first_move" s_Plans_first_move := ⟨fxPlans_first_move, _, fun_mk (st := s_Plans_first_move) lxPlans_first_move cxPlans_first_move kxPlans_first_move, ⟨axPlans_first_move, ixPlans_first_move, kxPlans_first_move⟩⟩
  have H_Plans___init__ := ok_Plans___init__ (P := l.prog) (w := w) (base := base) Y_Plans T_Plans___init__ B
  have A_Plans := plans_all Y_Plans B H_answer T_Plans_cost T_Plans_parts T_Plans_with_news T_Plans_table T_Plans_best T_Plans_first_move
  have H_Plans_table := A_Plans.1
  have H_Plans_best := A_Plans.2.1
  have H_Plans_first_move := A_Plans.2.2
  have H_best_pair : Has l.prog w K mg base 51 "best_pair" ["length", "stretch", "place", "by_steps"] (spP K R_best_pair) := ok_best_pair ⟨f20, _, fun_mk (st := s_best_pair) l20 c20 k20, PySem.W.mg_of X G a20⟩ B Y_Plans H_Plans___init__ H_Plans_first_move H_Plans_best
  have H_stands_from : Has l.prog w K mg base 52 "stands_from" ["length", "stretch", "place"] (spP K R_stands_from) := ok_stands_from ⟨f21, _, fun_mk (st := s_stands_from) l21 c21 k21, PySem.W.mg_of X G a21⟩ B H_need_asked H_best_pair
  have HX_stands_from := okX_stands_from (P := l.prog) (w := w) (base := base) B YE ⟨f21, _, fun_mk (st := s_stands_from) l21 c21 k21, PySem.W.mg_of X G a21⟩ HX_need_asked
  have HXX_stands_from := okXX_stands_from (P := l.prog) (w := w) (base := base) ⟨f21, _, fun_mk (st := s_stands_from) l21 c21 k21, PySem.W.mg_of X G a21⟩ B YT YI HXX_need_asked
  have H_steps_from : Has l.prog w K mg base 52 "steps_from" ["length", "stretch", "place"] (spP K R_steps_from) := ok_steps_from ⟨f22, _, fun_mk (st := s_steps_from) l22 c22 k22, PySem.W.mg_of X G a22⟩ B H_need_asked H_best_pair
  have HX_steps_from := okX_steps_from (P := l.prog) (w := w) (base := base) B YE ⟨f22, _, fun_mk (st := s_steps_from) l22 c22 k22, PySem.W.mg_of X G a22⟩ HX_need_asked
  have HXX_steps_from := okXX_steps_from (P := l.prog) (w := w) (base := base) ⟨f22, _, fun_mk (st := s_steps_from) l22 c22 k22, PySem.W.mg_of X G a22⟩ B YT YI HXX_need_asked
  have H_stands_at_all : Has l.prog w K mg base 49 "stands_at_all" ["length"] (spP K R_stands_at_all) := ok_stands_at_all ⟨f23, _, fun_mk (st := s_stands_at_all) l23 c23 k23, PySem.W.mg_of X G a23⟩ B gM Y_Plans H_need_short H_Plans_table H_Plans___init__
  have HX_stands_at_all := okX_stands_at_all (P := l.prog) (w := w) (base := base) B YE ⟨f23, _, fun_mk (st := s_stands_at_all) l23 c23 k23, PySem.W.mg_of X G a23⟩ gM HX_need_short
  have HXX_stands_at_all := okXX_stands_at_all (P := l.prog) (w := w) (base := base) ⟨f23, _, fun_mk (st := s_stands_at_all) l23 c23 k23, PySem.W.mg_of X G a23⟩ B YT YI gM HXX_need_short
  have H_far_round : Has l.prog w K mg base 1 "far_round" ["length", "one", "other"] (spP K R_far_round) := ok_far_round ⟨f24, _, fun_mk (st := s_far_round) l24 c24 k24, PySem.W.mg_of X G a24⟩ B
  have H_answers_round : Has l.prog w K mg base 2 "answers_round" ["length", "thing", "stands"] (spN K R_answers_round) := ok_answers_round ⟨f25, _, fun_mk (st := s_answers_round) l25 c25 k25, PySem.W.mg_of X G a25⟩ B H_far_round H_word_for
  have H_can_lie_round : Has l.prog w K mg base 3 "can_lie_round" ["length", "stands", "answers"] (spP K R_can_lie_round) := ok_can_lie_round ⟨f26, _, fun_mk (st := s_can_lie_round) l26 c26 k26, PySem.W.mg_of X G a26⟩ B H_need_length H_need_stands H_need_answers H_answers_round
  have HX_can_lie_round := okX_can_lie_round (P := l.prog) (w := w) (base := base) B YE ⟨f26, _, fun_mk (st := s_can_lie_round) l26 c26 k26, PySem.W.mg_of X G a26⟩ HX_need_length H_need_length HX_need_stands H_need_stands HX_need_answers
  have H_how_many_round : Has l.prog w K mg base 3 "how_many_round" ["length", "stands"] (spP K R_how_many_round) := ok_how_many_round ⟨f27, _, fun_mk (st := s_how_many_round) l27 c27 k27, PySem.W.mg_of X G a27⟩ B H_need_length H_need_stands H_answers_round
  have HX_how_many_round := okX_how_many_round (P := l.prog) (w := w) (base := base) B YE ⟨f27, _, fun_mk (st := s_how_many_round) l27 c27 k27, PySem.W.mg_of X G a27⟩ HX_need_length H_need_length HX_need_stands
  have Y_Search : SearchC K mg C_Search := ⟨⟨xSearchpg, xSearchhd, xSearchpo, xSearchsa⟩, xSearchn_length, xSearchn_past, PySem.W.mg_of X G xSearcha⟩
  have T_Search___init__ : RawI K C_Search "Search.__init__" s_Search___init__ := ⟨fxSearch_init, _, fun_mk (st := s_Search___init__) lxSearch_init cxSearch_init kxSearch_init, ⟨xSearchmk, axSearch_init, ixSearch_init, xSearchkc⟩⟩
  have H_Search___init__ := ok_Search___init__ (P := l.prog) (w := w) (base := base) Y_Search T_Search___init__ B H_need_length
  have XI : ∃ (f : Addr) (fd : FuncData), FnOk l.prog w K mg base (L2N.CX l.prog w) 22 f fd ["self", "length"] (spE K (X_sInit (ceOf C_NoLength C_NoPlace C_NoStands C_NoAnswers C_NoStretch))) ∧ Mk K C_Search f ∧ Binds K fd ["self", "length"] [] := by
    obtain ⟨f, fd, Fn, Mt⟩ := T_Search___init__
    exact ⟨f, fd, okX_Search___init___A Fn B YE Y_Search HX_need_length, Mt, Fn.binds fun _ _ _ _ _ _ us hl => match us, hl with | [_, _], _ => rfl⟩
  have H_law_cell_at : Has l.prog w K mg base 1 "_law_cell_at" ["script", "k"] (spP K R_law_cell_at) := ok_law_cell_at ⟨f28, _, fun_mk (st := s_law_cell_at) l28 c28 k28, PySem.W.mg_of X G a28⟩ B
  have H_law_draws : Has l.prog w K mg base 1 "_law_draws" ["cell", "many", "size"] (spN K R_law_draws) := ok_law_draws ⟨f29, _, fun_mk (st := s_law_draws) l29 c29 k29, PySem.W.mg_of X G a29⟩ B
  have H_law_bag : Has l.prog w K mg base 2 "_law_bag" ["script", "k"] (spN K R_law_bag) := ok_law_bag ⟨f30, _, fun_mk (st := s_law_bag) l30 c30 k30, PySem.W.mg_of X G a30⟩ B H_law_draws H_law_cell_at
  have H_law_bags : Has l.prog w K mg base 3 "_law_bags" ["script", "limit"] (spB K R_law_bags) := ok_law_bags ⟨f31, _, fun_mk (st := s_law_bags) l31 c31 k31, PySem.W.mg_of X G a31⟩ B H_law_bag
  have H_law_take : Has l.prog w K mg base 1 "_law_take" ["bag", "many"] (spM K R_law_take) := ok_law_take ⟨f32, _, fun_mk (st := s_law_take) l32 c32 k32, PySem.W.mg_of X G a32⟩ B
  have H_law_some_stands : Has l.prog w K mg base 2 "_law_some_stands" ["bag", "length", "most"] (spMN K R_law_some_stands) := ok_law_some_stands ⟨f33, _, fun_mk (st := s_law_some_stands) l33 c33 k33, PySem.W.mg_of X G a33⟩ B H_law_take
  have H_law_refused := ok_law_refused (P := l.prog) (w := w) (base := base) ⟨f34, _, fun_mk (st := s_law_refused) l34 c34 k34, PySem.W.mg_of X G a34⟩ B (PySem.W.mg_of X G gTooLong) (PySem.W.mg_of X G gSeekError) (PySem.W.mg_of X G gNoLength) (PySem.W.mg_of X G gNoPlace) (PySem.W.mg_of X G gNotNow) (PySem.W.mg_of X G gNoStands) (PySem.W.mg_of X G gNoAnswers) (PySem.W.mg_of X G gNoStretch) (PySem.W.mg_of X G gNoAnswer) (PySem.W.mg_of X G gNever) (PySem.W.mg_of X G gNothingLeft) rT
  have hDE : ∀ f ∈ [f21, f22], CanL l.prog w K mg base 60 (.loc (.ref f)) (spE K (X_na (ceOf C_NoLength C_NoPlace C_NoStands C_NoAnswers C_NoStretch))) := fun f hf => by
    simp only [List.mem_cons, List.not_mem_nil, or_false] at hf
    rcases hf with z | z <;> subst z
    · exact HasX.can HX_stands_from (by decide) (PySem.W.mg_of X G a21)
    · exact HasX.can HX_steps_from (by decide) (PySem.W.mg_of X G a22)
  have hDX : ∀ f ∈ [f21, f22], CanL l.prog w K mg base 60 (.loc (.ref f)) (spX K C_TooLong "most" Y_need_asked) := fun f hf => by
    simp only [List.mem_cons, List.not_mem_nil, or_false] at hf
    rcases hf with z | z <;> subst z
    · exact HasX.can HXX_stands_from (by decide) (PySem.W.mg_of X G a21)
    · exact HasX.can HXX_steps_from (by decide) (PySem.W.mg_of X G a22)
  have hDR : ∀ f ∈ [f21, f22], ∀ (n : Nat) (lo hi x : Int), n ≤ 16 → 1 ≤ lo → lo ≤ hi → hi ≤ n → 1 ≤ x → x ≤ n → Ref15 l.prog w K mg base C_TooLong C_SeekError [C_NoLength, C_NoPlace, C_NotNow, C_NoStands, C_NoAnswers, C_NoStretch, C_NoAnswer, C_Never, C_NothingLeft] (.loc (.ref f)) [.dat (.int n), .dat (.tuple [.int lo, .int hi]), .dat (.int x)] (.list []) := fun f hf n lo hi x g1 g2 g3 g4 g5 g6 => by
    simp only [List.mem_cons, List.not_mem_nil, or_false] at hf
    rcases hf with z | z <;> subst z
    · exact refR (ds := [.int n, .tuple [.int lo, .int hi], .int x]) (Has.can H_stands_from (by decide) (PySem.W.mg_of X G a21)) ⟨n, lo, hi, x, rfl, g1, g2, g3, g4, g5, g6, rfl⟩
    · exact refR (ds := [.int n, .tuple [.int lo, .int hi], .int x]) (Has.can H_steps_from (by decide) (PySem.W.mg_of X G a22)) ⟨n, lo, hi, x, rfl, g1, g2, g3, g4, g5, g6, rfl⟩
  have H_law_short_refused := ok_law_short_refused (P := l.prog) (w := w) (base := base) l35 c35 k35 (PySem.W.mg_of X G a35) B (TBs (cS, PS) (List.mem_cons_of_mem _ List.mem_cons_self)) hRef (PySem.W.mg_of X G a21) (PySem.W.mg_of X G a22) hDE hDX hDR HX_stands_at_all HXX_stands_at_all H_law_refused
  have H_law_things_refused := ok_law_things_refused (P := l.prog) (w := w) (base := base) ⟨f36, _, fun_mk (st := s_law_things_refused) l36 c36 k36, PySem.W.mg_of X G a36⟩ B hRef (PySem.W.mg_of X G a10) (HasX.can HX_answers_to (by decide) (PySem.W.mg_of X G a10)) H_law_refused
  have h1 : ∀ f ∈ [f17, f18], CanL l.prog w K mg base 50 (.loc (.ref f)) (spE K (XD (ceOf C_NoLength C_NoPlace C_NoStands C_NoAnswers C_NoStretch) X_fewest_aheadA)) := fun f hf => by
    simp only [List.mem_cons, List.not_mem_nil, or_false] at hf
    rcases hf with z | z <;> subst z
    · exact HasX.can HX_fewest_ahead (by decide) (PySem.W.mg_of X G a17)
    · exact HasX.can HX_stands_ahead (by decide) (PySem.W.mg_of X G a18)
  have h2 : ∀ f ∈ [f15, f16, f27], CanL l.prog w K mg base 50 (.loc (.ref f)) (spE K (X_l2 (ceOf C_NoLength C_NoPlace C_NoStands C_NoAnswers C_NoStretch) X_how_manyA X_how_manyB)) := fun f hf => by
    simp only [List.mem_cons, List.not_mem_nil, or_false] at hf
    rcases hf with z | z | z <;> subst z
    · exact HasX.can HX_how_many (by decide) (PySem.W.mg_of X G a15)
    · exact HasX.can HX_alike (by decide) (PySem.W.mg_of X G a16)
    · exact HasX.can HX_how_many_round (by decide) (PySem.W.mg_of X G a27)
  have h3 : ∀ f ∈ [f12, f13, f26], CanL l.prog w K mg base 60 (.loc (.ref f)) (spE K (X_l3 (ceOf C_NoLength C_NoPlace C_NoStands C_NoAnswers C_NoStretch) X_can_lieA X_can_lieB X_can_lieC)) := fun f hf => by
    simp only [List.mem_cons, List.not_mem_nil, or_false] at hf
    rcases hf with z | z | z <;> subst z
    · exact HasX.can HX_can_lie (by decide) (PySem.W.mg_of X G a12)
    · exact HasX.can HX_fewest_wrong (by decide) (PySem.W.mg_of X G a13)
    · exact HasX.can HX_can_lie_round (by decide) (PySem.W.mg_of X G a26)
  have h3R : ∀ f ∈ [f12, f13, f26], ∀ (n : Int) (xs : List Int) (ws : List Str), 1 ≤ n ∧ n ≤ 60 → stOk n xs → wsOk xs ws → Ref15 l.prog w K mg base C_TooLong C_SeekError [C_NoLength, C_NoPlace, C_NotNow, C_NoStands, C_NoAnswers, C_NoStretch, C_NoAnswer, C_Never, C_NothingLeft] (.loc (.ref f)) [.dat (.int n), .dat (dI xs), .dat (dS ws)] (.list []) := fun f hf n xs ws hn hx hw => by
    simp only [List.mem_cons, List.not_mem_nil, or_false] at hf
    rcases hf with z | z | z <;> subst z
    · exact refR (ds := [.int n, dI xs, dS ws]) (Has.can H_can_lie (by decide) (PySem.W.mg_of X G a12)) ⟨n, xs, ws, rfl, hn, hx, hw, rfl⟩
    · exact refR (ds := [.int n, dI xs, dS ws]) (Has.can H_fewest_wrong (by decide) (PySem.W.mg_of X G a13)) ⟨n, xs, ws, rfl, hn, hx, hw, rfl⟩
    · exact refR (ds := [.int n, dI xs, dS ws]) (Has.can H_can_lie_round (by decide) (PySem.W.mg_of X G a26)) ⟨n, xs, ws, rfl, hn, hx, hw, rfl⟩
  exact ok_law neT l37 c37 B (TBs (cL, PL) List.mem_cons_self) H_law_bags H_law_take H_law_some_stands H_law_things_refused Y_Search XI hRef (PySem.W.mg_of X G a17) (PySem.W.mg_of X G a18) (PySem.W.mg_of X G a15) (PySem.W.mg_of X G a16) (PySem.W.mg_of X G a27) (PySem.W.mg_of X G a12) (PySem.W.mg_of X G a13) (PySem.W.mg_of X G a26) h1 h2 h3 h3R H_law_short_refused H_law_refused
end Wm
open PySem PySem.W PyProof.Rows
set_option maxRecDepth 100000 in
set_option maxHeartbeats 0 in
theorem PySem.Challenge.cw_warmcold_k15_who_is_refused_holds : PySem.Challenge.rw_warmcold_k15_who_is_refused.Holds := by
  w_on; o_law; k_head; (case hw => w_witness2)
  k_fill
  refine LamX.walk_ofTs (l := PySem.Challenge.rw_warmcold_k15_who_is_refused) (n := 63) (k := 63) (x := "script") (CX := fun _ => L2.CX0) rfl (by decide) rfl ⟨rfl, by decide, by decide⟩ (fun w h Y => PySem.W.km_in_of Y) ?F (fun _ _ _ _ _ h => h)
  case F =>
    intro w mg fa h Y KX G hmg
    refine' Wm.all_mk KX G hmg (PySem.W.km_tabs_of Y) ?a0 ?l0 ?c0 ?k0 ?a1 ?l1 ?c1 ?k1 ?a2 ?l2 ?c2 ?k2 ?a3 ?l3 ?c3 ?k3 ?a4 ?l4 ?c4 ?k4 ?a5 ?l5 ?c5 ?k5 ?a6 ?l6 ?c6 ?k6 ?a7 ?l7 ?c7 ?k7 ?a8 ?l8 ?c8 ?k8 ?a9 ?l9 ?c9 ?k9 ?a10 ?l10 ?c10 ?k10 ?a11 ?l11 ?c11 ?k11 ?a12 ?l12 ?c12 ?k12 ?a13 ?l13 ?c13 ?k13 ?a14 ?l14 ?c14 ?k14 ?a15 ?l15 ?c15 ?k15 ?a16 ?l16 ?c16 ?k16 ?a17 ?l17 ?c17 ?k17 ?a18 ?l18 ?c18 ?k18 ?a19 ?l19 ?c19 ?k19 ?a20 ?l20 ?c20 ?k20 ?a21 ?l21 ?c21 ?k21 ?a22 ?l22 ?c22 ?k22 ?a23 ?l23 ?c23 ?k23 ?a24 ?l24 ?c24 ?k24 ?a25 ?l25 ?c25 ?k25 ?a26 ?l26 ?c26 ?k26 ?a27 ?l27 ?c27 ?k27 ?a28 ?l28 ?c28 ?k28 ?a29 ?l29 ?c29 ?k29 ?a30 ?l30 ?c30 ?k30 ?a31 ?l31 ?c31 ?k31 ?a32 ?l32 ?c32 ?k32 ?a33 ?l33 ?c33 ?k33 ?a34 ?l34 ?c34 ?k34 ?a35 ?l35 ?c35 ?k35 ?a36 ?l36 ?c36 ?k36 ?a37 ?l37 ?c37 ?k37 ?lCL ?vCL ?hCL ?nCL ?mTL ?lCS ?vCS ?hCS ?nCS ?mTS ?neT ?xPlansa ?xPlanspg ?xPlanshd ?xPlanspo ?xPlanssa ?xPlansmk ?xPlanskc ?xPlansn_length ?xPlansn_by_steps ?xPlansn_known ?axPlans_init ?ixPlans_init ?lxPlans_init ?cxPlans_init ?kxPlans_init ?axPlans_cost ?ixPlans_cost ?lxPlans_cost ?cxPlans_cost ?kxPlans_cost ?axPlans_parts ?ixPlans_parts ?lxPlans_parts ?cxPlans_parts ?kxPlans_parts ?axPlans_with_news ?ixPlans_with_news ?lxPlans_with_news ?cxPlans_with_news ?kxPlans_with_news ?axPlans_table ?ixPlans_table ?lxPlans_table ?cxPlans_table ?kxPlans_table ?axPlans_best ?ixPlans_best ?lxPlans_best ?cxPlans_best ?kxPlans_best ?axPlans_first_move ?ixPlans_first_move ?lxPlans_first_move ?cxPlans_first_move ?kxPlans_first_move ?xSearcha ?xSearchpg ?xSearchhd ?xSearchpo ?xSearchsa ?xSearchmk ?xSearchkc ?xSearchn_length ?xSearchn_past ?axSearch_init ?ixSearch_init ?lxSearch_init ?cxSearch_init ?kxSearch_init ?gNoLength ?gNoPlace ?gNotNow ?gNoStands ?gNoAnswers ?gNoStretch ?gNoAnswer ?gNever ?gNothingLeft ?gTooLong ?gSeekError ?is2 ?is3 ?e1NoLength ?e2NoLength ?e3NoLength ?e4NoLength ?x1NoLength ?x2NoLength ?x4NoLength ?x5NoLength ?x8NoLength ?r3NoLength ?r1NoLength ?r2NoLength ?r4NoLength ?e1NoPlace ?e2NoPlace ?e3NoPlace ?e4NoPlace ?x1NoPlace ?x2NoPlace ?x4NoPlace ?x5NoPlace ?x8NoPlace ?r3NoPlace ?r1NoPlace ?r2NoPlace ?r4NoPlace ?e1NoStands ?e2NoStands ?e3NoStands ?e4NoStands ?x1NoStands ?x2NoStands ?x4NoStands ?x5NoStands ?x8NoStands ?r3NoStands ?r1NoStands ?r2NoStands ?r4NoStands ?e1NoAnswers ?e2NoAnswers ?e3NoAnswers ?e4NoAnswers ?x1NoAnswers ?x2NoAnswers ?x4NoAnswers ?x5NoAnswers ?x8NoAnswers ?r3NoAnswers ?r1NoAnswers ?r2NoAnswers ?r4NoAnswers ?e1NoStretch ?e2NoStretch ?e3NoStretch ?e4NoStretch ?x1NoStretch ?x2NoStretch ?x4NoStretch ?x5NoStretch ?x8NoStretch ?r3NoStretch ?r1NoStretch ?r2NoStretch ?r4NoStretch ?e2TooLong ?e3TooLong ?e4TooLong ?x1TooLong ?x2TooLong ?x4TooLong ?x5TooLong ?x8TooLong ?r3TooLong ?q0 ?q1 ?q2 ?q3 ?r1TooLong ?q4 ?q5 ?q6 ?q7 ?q8 ?q9 ?qA ?qB ?qC ?z_abs ?z_all ?z_enumerate ?z_int ?z_isinstance ?z_len ?z_list ?z_max ?z_min ?z_range ?z_set ?z_sorted ?z_str ?z_tuple ?z_zip ?z_bool ?z_repr ?z_ValueError ?aWd ?lWd ?qWd ?aMo
    (case a0 => k_is); (case l0 => k_is); (case c0 => k_is); (case k0 => k_is); (case a1 => k_is); (case l1 => k_is)
    (case c1 => k_is); (case k1 => k_is); (case a2 => k_is); (case l2 => k_is); (case c2 => k_is); (case k2 => k_is)
    (case a3 => k_is); (case l3 => k_is); (case c3 => k_is); (case k3 => k_is); (case a4 => k_is); (case l4 => k_is)
    (case c4 => k_is); (case k4 => k_is); (case a5 => k_is); (case l5 => k_is); (case c5 => k_is); (case k5 => k_is)
    (case a6 => k_is); (case l6 => k_is); (case c6 => k_is); (case k6 => k_is); (case a7 => k_is); (case l7 => k_is)
    (case c7 => k_is); (case k7 => k_is); (case a8 => k_is); (case l8 => k_is); (case c8 => k_is); (case k8 => k_is)
    (case a9 => k_is); (case l9 => k_is); (case c9 => k_is); (case k9 => k_is); (case a10 => k_is); (case l10 => k_is)
    (case c10 => k_is); (case k10 => k_is); (case a11 => k_is); (case l11 => k_is); (case c11 => k_is); (case k11 => k_is)
    (case a12 => k_is); (case l12 => k_is); (case c12 => k_is); (case k12 => k_is); (case a13 => k_is); (case l13 => k_is)
    (case c13 => k_is); (case k13 => k_is); (case a14 => k_is); (case l14 => k_is); (case c14 => k_is); (case k14 => k_is)
    (case a15 => k_is); (case l15 => k_is); (case c15 => k_is); (case k15 => k_is); (case a16 => k_is); (case l16 => k_is)
    (case c16 => k_is); (case k16 => k_is); (case a17 => k_is); (case l17 => k_is); (case c17 => k_is); (case k17 => k_is)
    (case a18 => k_is); (case l18 => k_is); (case c18 => k_is); (case k18 => k_is); (case a19 => k_is); (case l19 => k_is)
    (case c19 => k_is); (case k19 => k_is); (case a20 => k_is); (case l20 => k_is); (case c20 => k_is); (case k20 => k_is)
    (case a21 => k_is); (case l21 => k_is); (case c21 => k_is); (case k21 => k_is); (case a22 => k_is); (case l22 => k_is)
    (case c22 => k_is); (case k22 => k_is); (case a23 => k_is); (case l23 => k_is); (case c23 => k_is); (case k23 => k_is)
    (case a24 => k_is); (case l24 => k_is); (case c24 => k_is); (case k24 => k_is); (case a25 => k_is); (case l25 => k_is)
    (case c25 => k_is); (case k25 => k_is); (case a26 => k_is); (case l26 => k_is); (case c26 => k_is); (case k26 => k_is)
    (case a27 => k_is); (case l27 => k_is); (case c27 => k_is); (case k27 => k_is); (case a28 => k_is); (case l28 => k_is)
    (case c28 => k_is); (case k28 => k_is); (case a29 => k_is); (case l29 => k_is); (case c29 => k_is); (case k29 => k_is)
    (case a30 => k_is); (case l30 => k_is); (case c30 => k_is); (case k30 => k_is); (case a31 => k_is); (case l31 => k_is)
    (case c31 => k_is); (case k31 => k_is); (case a32 => k_is); (case l32 => k_is); (case c32 => k_is); (case k32 => k_is)
    (case a33 => k_is); (case l33 => k_is); (case c33 => k_is); (case k33 => k_is); (case a34 => k_is); (case l34 => k_is)
    (case c34 => k_is); (case k34 => k_is); (case a35 => k_is); (case l35 => k_is); (case c35 => k_is); (case k35 => k_is)
    (case a36 => k_is); (case l36 => k_is); (case c36 => k_is); (case k36 => k_is); (case a37 => k_is); (case l37 => k_is)
    (case c37 => k_is); (case k37 => k_is); (case lCL => k_is); (case vCL => first | rfl | k_is); (case hCL => kernel_rfl!); (case nCL => first | k_is | kernel_rfl!)
    (case mTL => decide); (case lCS => k_is); (case vCS => first | rfl | k_is); (case hCS => kernel_rfl!); (case nCS => first | k_is | kernel_rfl!); (case mTS => decide)
    (case neT => decide); (case xPlansa => k_is); (case xPlanspg => k_is); (case xPlanshd => k_is); (case xPlanspo => k_is); (case xPlanssa => k_is)
    (case xPlansmk => k_is); (case xPlanskc => k_is); (case xPlansn_length => k_is); (case xPlansn_by_steps => k_is); (case xPlansn_known => k_is); (case axPlans_init => k_is)
    (case ixPlans_init => k_is); (case lxPlans_init => k_is); (case cxPlans_init => k_is); (case kxPlans_init => k_is); (case axPlans_cost => k_is); (case ixPlans_cost => k_is)
    (case lxPlans_cost => k_is); (case cxPlans_cost => k_is); (case kxPlans_cost => k_is); (case axPlans_parts => k_is); (case ixPlans_parts => k_is); (case lxPlans_parts => k_is)
    (case cxPlans_parts => k_is); (case kxPlans_parts => k_is); (case axPlans_with_news => k_is); (case ixPlans_with_news => k_is); (case lxPlans_with_news => k_is); (case cxPlans_with_news => k_is)
    (case kxPlans_with_news => k_is); (case axPlans_table => k_is); (case ixPlans_table => k_is); (case lxPlans_table => k_is); (case cxPlans_table => k_is); (case kxPlans_table => k_is)
    (case axPlans_best => k_is); (case ixPlans_best => k_is); (case lxPlans_best => k_is); (case cxPlans_best => k_is); (case kxPlans_best => k_is); (case axPlans_first_move => k_is)
    (case ixPlans_first_move => k_is); (case lxPlans_first_move => k_is); (case cxPlans_first_move => k_is); (case kxPlans_first_move => k_is); (case xSearcha => k_is); (case xSearchpg => k_is)
    (case xSearchhd => k_is); (case xSearchpo => k_is); (case xSearchsa => k_is); (case xSearchmk => k_is); (case xSearchkc => k_is); (case xSearchn_length => k_is)
    (case xSearchn_past => k_is); (case axSearch_init => k_is); (case ixSearch_init => k_is); (case lxSearch_init => k_is); (case cxSearch_init => k_is); (case kxSearch_init => k_is)
    (case gNoLength => k_is); (case gNoPlace => k_is); (case gNotNow => k_is); (case gNoStands => k_is); (case gNoAnswers => k_is); (case gNoStretch => k_is)
    (case gNoAnswer => k_is); (case gNever => k_is); (case gNothingLeft => k_is); (case gTooLong => k_is); (case gSeekError => k_is); (case is2 => k_is)
    (case is3 => k_is); (case e1NoLength => k_exc); (case e2NoLength => k_is); (case e3NoLength => k_is); (case e4NoLength => k_is); (case x1NoLength => k_is)
    (case x2NoLength => k_is); (case x4NoLength => k_is); (case x5NoLength => k_is); (case x8NoLength => k_is); (case r3NoLength => kit_is); (case r1NoLength => kts_exm)
    (case r2NoLength => kts_exm); (case r4NoLength => kernel_rfl!); (case e1NoPlace => k_exc); (case e2NoPlace => k_is); (case e3NoPlace => k_is); (case e4NoPlace => k_is)
    (case x1NoPlace => k_is); (case x2NoPlace => k_is); (case x4NoPlace => k_is); (case x5NoPlace => k_is); (case x8NoPlace => k_is); (case r3NoPlace => kit_is)
    (case r1NoPlace => kts_exm); (case r2NoPlace => kts_exm); (case r4NoPlace => kernel_rfl!); (case e1NoStands => k_exc); (case e2NoStands => k_is); (case e3NoStands => k_is)
    (case e4NoStands => k_is); (case x1NoStands => k_is); (case x2NoStands => k_is); (case x4NoStands => k_is); (case x5NoStands => k_is); (case x8NoStands => k_is)
    (case r3NoStands => kit_is); (case r1NoStands => kts_exm); (case r2NoStands => kts_exm); (case r4NoStands => kernel_rfl!); (case e1NoAnswers => k_exc); (case e2NoAnswers => k_is)
    (case e3NoAnswers => k_is); (case e4NoAnswers => k_is); (case x1NoAnswers => k_is); (case x2NoAnswers => k_is); (case x4NoAnswers => k_is); (case x5NoAnswers => k_is)
    (case x8NoAnswers => k_is); (case r3NoAnswers => kit_is); (case r1NoAnswers => kts_exm); (case r2NoAnswers => kts_exm); (case r4NoAnswers => kernel_rfl!); (case e1NoStretch => k_exc)
    (case e2NoStretch => k_is); (case e3NoStretch => k_is); (case e4NoStretch => k_is); (case x1NoStretch => k_is); (case x2NoStretch => k_is); (case x4NoStretch => k_is)
    (case x5NoStretch => k_is); (case x8NoStretch => k_is); (case r3NoStretch => kit_is); (case r1NoStretch => kts_exm); (case r2NoStretch => kts_exm); (case r4NoStretch => kernel_rfl!)
    (case e2TooLong => k_is); (case e3TooLong => k_is); (case e4TooLong => k_is); (case x1TooLong => k_is); (case x2TooLong => k_is); (case x4TooLong => k_is)
    (case x5TooLong => k_is); (case x8TooLong => k_is); (case r3TooLong => kit_is); (case q0 => k_is); (case q1 => kernel_rfl!); (case q2 => k_is)
    (case q3 => k_is); (case r1TooLong => kts_exm); (case q4 => k_is); (case q5 => k_is); (case q6 => k_is); (case q7 => k_is)
    (case q8 => k_is); (case q9 => k_is); (case qA => k_is); (case qB => k_is); (case qC => k_is); (case z_abs => k_is)
    (case z_all => k_is); (case z_enumerate => k_is); (case z_int => k_is); (case z_isinstance => k_is); (case z_len => k_is); (case z_list => k_is)
    (case z_max => k_is); (case z_min => k_is); (case z_range => k_is); (case z_set => k_is); (case z_sorted => k_is); (case z_str => k_is)
    (case z_tuple => k_is); (case z_zip => k_is); (case z_bool => k_is); (case z_repr => k_is); (case z_ValueError => k_is); (case aWd => k_is)
    (case lWd => k_is); (case qWd => first | rfl | decide +kernel); (case aMo => k_is)
